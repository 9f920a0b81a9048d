import PyProof.Rows.All
import Wide.All
import OpenK.AllK
import Wide.FinOn
import HandS.ForMost
import HandS.Deep
import HandS.TupAny
import HandS.IsInst
import HandS.SortInts
import HandS.Zip
import HandS.Style
import HandS.Flow
import KE.KTupSum
import HandS.More
import HandS.SortRule
import HandS.SortOrd
import HandS.Conv
import KE.GoesEnum
import HandS.EndBits
import PyProof.ReprBulk
import PyProof.P3Eq
import PySem.Challenge.RW_deskhours_k15_whole_main_tables_alike
set_option Elab.async false
set_option linter.all false
set_option maxRecDepth 100000
set_option maxHeartbeats 0
/-! The pure evaluator: own syntax, owned trees, a partial evaluation over PyData. -/
namespace PyI
open PySem

abbrev D := PyData

/-- a value as a variable or a fresh result holds it: shared data, or a list that nobody else holds -/
inductive OT where
  | leaf (d : D)
  | nod (g : Option (List L2.Key)) (ts : List OT)
/-- a list of one's own; a dict of one's own is a node with its keys -/
abbrev OT.lst (ts : List OT) : OT := .nod none ts
/-- a key as a datum -/
def keyD : L2.Key → D
  | .inl i => .int i
  | .inr x => .str x
def keyOf : D → Option L2.Key
  | .int i => some (.inl i)
  | .str x => some (.inr x)
  | _ => none
def posK : List L2.Key → L2.Key → Option Nat
  | [], _ => none
  | x :: r, k => if x = k then some 0 else (posK r k).map (· + 1)

mutual
def OT.dat : OT → D
  | .leaf d => d
  | .nod none ts => .list (OT.dats ts)
  | .nod (some ks) ts => .dict ((ks.map keyD).zip (OT.dats ts))
def OT.dats : List OT → List D
  | [] => []
  | t :: ts => t.dat :: OT.dats ts
end
def leaves : List OT → Option (List D)
  | [] => some []
  | .leaf d :: r => (leaves r).map (d :: ·)
  | .nod _ _ :: _ => none
/-- data whose items are shared -/
def OT.sh : OT → Option D
  | .leaf d => some d
  | .nod none ts => (leaves ts).map .list
  | .nod (some _) _ => none

abbrev Env := List (Option OT)
/-- what an expression gives: a value of its own, or the list (or a part of it) that a variable holds -/
inductive R where
  | own (t : OT)
  | al (i : Nat) (p : List Nat)
def R.deep : R → Bool
  | .al _ (_ :: _) => true
  | _ => false

def OT.at? : OT → List Nat → Option OT
  | t, [] => some t
  | .nod _ ts, k :: p => match ts[k]? with
    | some t => t.at? p
    | none => none
  | .leaf _, _ :: _ => none
def Env.look (env : Env) (i : Nat) (p : List Nat) : Option OT :=
  match env[i]? with
  | some (some t) => t.at? p
  | _ => none
/-- a tree changed at a path -/
def OT.put : OT → List Nat → OT → Option OT
  | _, [], n => some n
  | .nod g ts, k :: p, n => match ts[k]? with
    | some t => match t.put p n with
      | some t' => some (.nod g (ts.set k t'))
      | none => none
    | none => none
  | .leaf _, _ :: _, _ => none
def Env.put (env : Env) (i : Nat) (p : List Nat) (n : OT) : Option Env :=
  match env[i]? with
  | some (some t) => match t.put p n with
    | some t' => some (env.set i (some t'))
    | none => none
  | _ => none
def R.tree (env : Env) : R → Option OT
  | .own t => some t
  | .al i p => env.look i p
def R.dat (env : Env) (r : R) : Option D := (r.tree env).map OT.dat
def R.sh (env : Env) (r : R) : Option D := (r.tree env).bind OT.sh
/-- a result kept: a variable's list is shared from then on -/
def R.take (env : Env) : R → Option (OT × Env)
  | .own t => some (t, env)
  | .al i [] => match env[i]? with
    | some (some t) => some (.leaf t.dat, env.set i (some (.leaf t.dat)))
    | _ => none
  | .al _ (_ :: _) => none
def takes : List R → Env → Option (List OT × Env)
  | [], env => some ([], env)
  | r :: rs, env => match r.take env with
    | some (t, env1) => match takes rs env1 with
      | some (ts, env2) => some (t :: ts, env2)
      | none => none
    | none => none

/-! ### operators by values -/
inductive Op where
  | add | sub | mul | fdiv | mod | pow | neg
  | eq | ne | lt | le | gt | ge | isN | notN | isT | notT | isin | notin
  | tup | lst | nil | dic0 | shr | ix | rev | lrg | trg
  | len | abs | int | str | repr | sum | min | max | any | all | tuple | list | sorted | isI (c : String)
  deriving DecidableEq
/-- methods -/
inductive Mt where
  | append | extend | pop | popAt | insert
  deriving DecidableEq

def ixOf (n : Nat) (i : Int) : Option Nat := L2.ixN n i
def intMulOk (i j : Int) : Bool := (decide (-(2 ^ 64) < i) && decide (i < 2 ^ 64)) || (decide (-(2 ^ 64) < j) && decide (j < 2 ^ 64))
def ints? : List D → Option (List Int)
  | [] => some []
  | .int i :: r => (ints? r).map (i :: ·)
  | _ => none
def bools? : List D → Option (List Bool)
  | [] => some []
  | .bool b :: r => (bools? r).map (b :: ·)
  | _ => none
def maxI : List Int → Option Int
  | [] => none
  | [x] => some x
  | x :: r => (maxI r).map fun m => if m > x then m else x
def minI : List Int → Option Int
  | [] => none
  | [x] => some x
  | x :: r => (minI r).map fun m => if m < x then m else x
def flatD : D → Bool
  | .none => true
  | .bool _ => true
  | .int _ => true
  | .str _ => true
  | _ => false
/-- a dict of flat things -/
def loneD : D → Bool
  | .dict kvs => kvs.all fun kv => flatD kv.2
  | _ => false
def fits (d : D) : Bool := d.showable && decide (d.shown.length ≤ sizeLine) && decide (d.depth ≤ 64) && (!d.hasDict || loneD d)
def cutD (xs : List D) (lo hi : Option Int) : List D := (xs.drop (HT.sIx xs.length 0 lo)).take (HT.sIx xs.length xs.length hi - HT.sIx xs.length 0 lo)
def isA (c : String) : D → Option Bool
  | .none => some false
  | .bool _ => some (c == "bool" || c == "int")
  | .int _ => some (c == "int")
  | .str _ => some (c == "str")
  | .list _ => some (c == "list")
  | .tuple _ => some (c == "tuple")
  | .dict _ => some false

/-- x in a list or a tuple -/
def inSem (d : D) : D → Option Bool
  | .list ds => if SeqAt.shaped d && SeqAt.shaped (.list ds) then some (ds.any fun z => PyData.eqv z d) else none
  | .dict kvs => (keyOf d).map fun key => (posK (kvs.filterMap fun kv => keyOf kv.1) key).isSome
  | .tuple ds => if flatD d && ds.all flatD then some (ds.any fun z => PyData.eqv z d) else none
  | _ => none
/-- operators whose answer is flat: they only read -/
def flatSem : Op → List D → Option D
  | .add, [.int i, .int j] => some (.int (i + j))
  | .sub, [.int i, .int j] => some (.int (i - j))
  | .mul, [.int i, .int j] => if intMulOk i j then some (.int (i * j)) else none
  | .fdiv, [.int i, .int j] => if j ≠ 0 ∧ j.natAbs < 1073741824 then some (.int (i.fdiv j)) else none
  | .mod, [.int i, .int j] => if j ≠ 0 then some (.int (i.fmod j)) else none
  | .pow, [.int i, .int j] => if 0 ≤ j ∧ j ≤ 1000000 ∧ i.natAbs < 2 ^ 64 then some (.int (i ^ j.toNat)) else none
  | .neg, [.int i] => some (.int (-i))
  | .eq, [a, b] => if SeqAt.shaped a && SeqAt.shaped b then some (.bool (PyData.eqv a b)) else none
  | .ne, [a, b] => if SeqAt.shaped a && SeqAt.shaped b then some (.bool (!PyData.eqv a b)) else none
  | .lt, [.int i, .int j] => some (.bool (decide (i < j)))
  | .le, [.int i, .int j] => some (.bool (decide (i ≤ j)))
  | .gt, [.int i, .int j] => some (.bool (decide (j < i)))
  | .ge, [.int i, .int j] => some (.bool (decide (j ≤ i)))
  | .isN, [.none] => some (.bool true)
  | .isN, [_] => some (.bool false)
  | .notN, [.none] => some (.bool false)
  | .notN, [_] => some (.bool true)
  | .isT, [.bool b] => some (.bool b)
  | .notT, [.bool b] => some (.bool (!b))
  | .len, [.list xs] => some (.int xs.length)
  | .len, [.tuple xs] => some (.int xs.length)
  | .len, [.dict kvs] => some (.int kvs.length)
  | .abs, [.int i] => some (.int (if i < 0 then -i else i))
  | .int, [.int i] => some (.int i)
  | .int, [.bool b] => some (.int (if b then 1 else 0))
  | .str, [.int i] => if i.natAbs.log2 < 1920 then some (.str (toString i)) else none
  | .repr, [d] => if fits d then some (.str d.shown) else none
  | .sum, [.list xs] => (ints? xs).map fun ns => .int ns.sum
  | .sum, [.tuple xs] => (ints? xs).map fun ns => .int ns.sum
  | .min, [.int i, .int j] => some (.int (if j < i then j else i))
  | .max, [.int i, .int j] => some (.int (if j > i then j else i))
  | .min, [.list xs] => (ints? xs).bind fun ns => (minI ns).map .int
  | .max, [.list xs] => (ints? xs).bind fun ns => (maxI ns).map .int
  | .min, [.tuple xs] => (ints? xs).bind fun ns => (minI ns).map .int
  | .max, [.tuple xs] => (ints? xs).bind fun ns => (maxI ns).map .int
  | .any, [.list xs] => (bools? xs).map fun bs => .bool (bs.any id)
  | .all, [.list xs] => (bools? xs).map fun bs => .bool (bs.all id)
  | .isI c, [d] => (isA c d).map .bool
  | .isin, [d, e] => (inSem d e).map .bool
  | .notin, [d, e] => (inSem d e).map fun b => .bool (!b)
  | _, _ => none
def isFlat : Op → Bool
  | .sub | .mul | .fdiv | .mod | .pow | .neg | .eq | .ne | .lt | .le | .gt | .ge | .isN | .notN | .isT | .notT | .len | .abs | .int | .str | .repr | .sum | .min | .max | .any | .all | .isI _ | .isin | .notin => true
  | _ => false
def dats (env : Env) : List R → Option (List D)
  | [] => some []
  | r :: rs => match r.dat env with
    | some d => (dats env rs).map (d :: ·)
    | none => none
def ofList (ds : List D) : OT := .lst (ds.map .leaf)

/-- the ints below n -/
def rgI (n : Int) : List Int := (List.range n.toNat).map fun (i : Nat) => (i : Int)
def insI (x : Int) : List Int → List Int
  | [] => [x]
  | y :: r => if x ≤ y then x :: y :: r else y :: insI x r
def sortI : List Int → List Int
  | [] => []
  | x :: r => insI x (sortI r)
def lexleB (p q : Int × Int) : Bool := decide (p.1 < q.1) || (decide (p.1 = q.1) && decide (p.2 ≤ q.2))
def insP (x : Int × Int) : List (Int × Int) → List (Int × Int)
  | [] => [x]
  | y :: r => if lexleB x y = true then x :: y :: r else y :: insP x r
def sortP : List (Int × Int) → List (Int × Int)
  | [] => []
  | x :: r => insP x (sortP r)
def pairs? : List D → Option (List (Int × Int))
  | [] => some []
  | d :: r => match d with
    | .tuple [.int i, .int j] => (pairs? r).map ((i, j) :: ·)
    | _ => none
def prD (p : Int × Int) : D := .tuple [.int p.1, .int p.2]
/-- sorted: whole numbers, or pairs of them -/
def sortD (xs : List D) : Option (List D) := match ints? xs with
  | some ns => some ((sortI ns).map .int)
  | none => match pairs? xs with
    | some ps => some ((sortP ps).map prD)
    | none => none
/-- an item of shared data -/
def ixLeaf (d y : D) : Option D := match d with
  | .list ds => (match y with
    | .int i => (match ixOf ds.length i with
      | some k => ds[k]?
      | none => none)
    | _ => none)
  | .tuple ds => (match y with
    | .int i => (match ixOf ds.length i with
      | some k => ds[k]?
      | none => none)
    | _ => none)
  | .dict kvs => (match keyOf y with
    | some key => (match posK (kvs.filterMap fun kv => keyOf kv.1) key with
      | some k => (kvs[k]?).map (·.2)
      | none => none)
    | none => none)
  | _ => none
/-- the place of an item in a node -/
def posG (g : Option (List L2.Key)) (n : Nat) (y : D) : Option Nat := match g with
  | none => (match y with
    | .int i => ixOf n i
    | _ => none)
  | some ks => (match keyOf y with
    | some key => posK ks key
    | none => none)
def roomG : Option (List L2.Key) → Bool
  | none => true
  | some ks => decide (ks.length < sizeLine)
def ixSem (a : R) (y : D) (env : Env) : Option (R × Env) := match a with
  | .al v p => (match env.look v p with
    | some (.nod g ts) => (match posG g ts.length y with
      | some k => (match ts[k]? with
        | some (.leaf d) => some (.own (.leaf d), env)
        | some (.nod _ _) => some (.al v (p ++ [k]), env)
        | none => none)
      | none => none)
    | some (.leaf d) => (ixLeaf d y).map fun d => (.own (.leaf d), env)
    | none => none)
  | .own (.leaf d) => (ixLeaf d y).map fun d => (.own (.leaf d), env)
  | .own (.nod g ts) => (match posG g ts.length y with
    | some k => (match ts[k]? with
      | some (.leaf d) => some (.own (.leaf d), env)
      | _ => none)
    | none => none)
/-- an operator at results -/
def opSem (o : Op) (rs : List R) (env : Env) : Option (R × Env) :=
  if isFlat o then (match dats env rs with
    | some ds => (flatSem o ds).map fun d => (.own (.leaf d), env)
    | none => none)
  else match o, rs with
  | .add, [a, b] => match a.sh env, b.sh env with
    | some (.int i), some (.int j) => some (.own (.leaf (.int (i + j))), env)
    | some (.list xs), some (.list ys) => if xs.length + ys.length ≤ sizeLine then some (.own (ofList (xs ++ ys)), env) else none
    | some (.tuple xs), some (.tuple ys) => if xs.length + ys.length ≤ sizeLine then some (.own (.leaf (.tuple (xs ++ ys))), env) else none
    | some (.str x), some (.str y) => if x.length + y.length ≤ sizeLine then some (.own (.leaf (.str (x ++ y))), env) else none
    | _, _ => none
  | .tup, rs => match takes rs env with
    | some (ts, env') => some (.own (.leaf (.tuple (OT.dats ts))), env')
    | none => none
  | .lst, rs => match takes rs env with
    | some (ts, env') => some (.own (.lst ts), env')
    | none => none
  | .nil, [] => some (.own (ofList []), env)
  | .dic0, [] => some (.own (.leaf (.dict [])), env)
  | .shr, [a] => match a.take env with
    | some (t, env') => some (.own (.leaf t.dat), env')
    | none => none
  | .ix, [a, b] => match b.dat env with
    | some y => ixSem a y env
    | none => none
  | .tuple, [a] => match a.sh env with
    | some (.list xs) => some (.own (.leaf (.tuple xs)), env)
    | some (.tuple xs) => some (.own (.leaf (.tuple xs)), env)
    | _ => none
  | .list, [a] => match a.sh env with
    | some (.list xs) => some (.own (ofList xs), env)
    | some (.tuple xs) => some (.own (ofList xs), env)
    | _ => none
  | .sorted, [a] => match a.sh env with
    | some (.list xs) => (sortD xs).map fun ds => (.own (ofList ds), env)
    | some (.tuple xs) => (sortD xs).map fun ds => (.own (ofList ds), env)
    | _ => none
  | .lrg, [a] => match a.dat env with
    | some (.int n) => if -4611686018427387904 ≤ n ∧ n ≤ 16777216 then some (.own (ofList ((rgI n).map .int)), env) else none
    | _ => none
  | .trg, [a] => match a.dat env with
    | some (.int n) => if -4611686018427387904 ≤ n ∧ n ≤ 16777216 then some (.own (.leaf (.tuple ((rgI n).map .int))), env) else none
    | _ => none
  | .rev, [a] => match a.sh env with
    | some (.list xs) => some (.own (ofList xs.reverse), env)
    | some (.tuple xs) => some (.own (.leaf (.tuple xs.reverse)), env)
    | _ => none
  | _, _ => none
/-- a slice -/
def slSem (a : R) (lo hi : Option Int) (env : Env) : Option (R × Env) :=
  match a.sh env with
  | some (.list xs) => some (.own (ofList (cutD xs lo hi)), env)
  | some (.tuple xs) => some (.own (.leaf (.tuple (cutD xs lo hi))), env)
  | _ => none
/-- a receiver is a list -/
def isListR (r : R) (env : Env) : Bool := match r.dat env with
  | some (.list _) => true
  | _ => false
/-- a method at results -/
def mtSem (m : Mt) (recv : R) (rs : List R) (env : Env) : Option (R × Env) :=
  match m, recv, rs with
  | .append, .al v p, [b] => match b.take env with
    | some (t, env1) => match env1.look v p with
      | some (.lst ts) => if ts.length < sizeLine then (env1.put v p (.lst (ts ++ [t]))).map fun e => (.own (.leaf .none), e) else none
      | _ => none
    | none => none
  | .extend, .al v p, [b] => match b.sh env with
    | some (.list ds) => match env.look v p with
      | some (.lst ts) => if ts.length + ds.length ≤ sizeLine then (env.put v p (.lst (ts ++ ds.map .leaf))).map fun e => (.own (.leaf .none), e) else none
      | _ => none
    | _ => none
  | .pop, .al v p, [] => match env.look v p with
    | some (.lst ts) => match ts[ts.length - 1]? with
      | some (.leaf d) => (env.put v p (.lst ts.dropLast)).map fun e => (.own (.leaf d), e)
      | _ => none
    | _ => none
  | .popAt, .al v p, [b] => match b.dat env with
    | some (.int i) => match env.look v p with
      | some (.lst ts) => match ixOf ts.length i with
        | some k => match ts[k]? with
          | some (.leaf d) => if -(2 ^ 63) ≤ i ∧ i < 2 ^ 63 then (env.put v p (.lst (ts.eraseIdx k))).map fun e => (.own (.leaf d), e) else none
          | _ => none
        | none => none
      | _ => none
    | _ => none
  | .insert, .al v p, [b, .own (.leaf d)] => match b.dat env with
    | some (.int i) => match env.look v p with
      | some (.lst ts) => match leaves ts with
        | some ds => if ds.length < sizeLine ∧ 0 ≤ i ∧ i < 2 ^ 63 then (env.put v p (.lst ((ds.take i.toNat ++ [d] ++ ds.drop i.toNat).map .leaf))).map fun e => (.own (.leaf .none), e) else none
        | none => none
      | _ => none
    | _ => none
  | _, _, _ => none

/-! ### the syntax -/
mutual
inductive E where
  | var (i : Nat)
  | c (d : D)
  | op (o : Op) (as : Es)
  | and (a b : E) | or (a b : E) | not (a : E)
  | ite (c a b : E)
  | chain (o p : Op) (a b c : E)
  | sl (a : E) (lo hi : C)
  | meth (m : Mt) (o : E) (as : Es)
  | call (f : Nat) (as kw : Es) (perm : List Nat)
  | comp (elt : E) (t : T) (it : It) (cond : C) (own : List (Str × Nat))
  | dct (ks : List L2.Key) (vs : Es)
inductive Es where
  | nil
  | cons (e : E) (es : Es)
/-- a comprehension's if, or none -/
inductive C where
  | non
  | some (e : E)
/-- a target -/
inductive T where
  | nm (i : Nat)
  | tup (ts : Ts)
  | sub (o i : E)
inductive Ts where
  | nil
  | cons (t : T) (ts : Ts)
/-- what a loop walks -/
inductive It where
  | seq (e : E)
  | range (as : Es)
  | enum (e : E)
  | zip (a b : E)
end
mutual
inductive S where
  | asg (i : Nat) (e : E)
  | par (ts : Ts) (es : Es)
  | unp (t : Ts) (e : E)
  | put (o i e : E)
  | ex (e : E)
  | ret (e : E)
  | retN
  | ife (c : E) (a b : Ss)
  | loop (t : T) (it : It) (b : Ss)
  | whl (c : E) (b : Ss)
  | brk | cont | pass
inductive Ss where
  | nil
  | cons (s : S) (ss : Ss)
  | ali (i v : Nat) (key : D) (s : S) (ss : Ss)
end

/-- changes nothing but new objects -/
def Op.quiet : Op → Bool
  | .tup | .lst | .shr => false
  | _ => true
mutual
def E.quiet : E → Bool
  | .var _ => true
  | .c _ => true
  | .op o as => o.quiet && as.quiet
  | _ => false
def Es.quiet : Es → Bool
  | .nil => true
  | .cons e es => e.quiet && es.quiet
end

mutual
def T.asgs : T → List Nat
  | .nm i => [i]
  | .tup ts => ts.asgs
  | .sub _ _ => []
def Ts.asgs : Ts → List Nat
  | .nil => []
  | .cons t ts => t.asgs ++ ts.asgs
end
mutual
def S.asgs : S → List Nat
  | .asg i _ => [i]
  | .par ts _ => ts.asgs
  | .unp t _ => t.asgs
  | .ife _ a b => a.asgs ++ b.asgs
  | .loop t _ b => t.asgs ++ b.asgs
  | .whl _ b => b.asgs
  | _ => []
def Ss.asgs : Ss → List Nat
  | .nil => []
  | .cons s ss => s.asgs ++ ss.asgs
  | .ali i _ _ s ss => i :: (s.asgs ++ ss.asgs)
end
/-- a part of a tree gets a name of its own for one statement -/
def aliIn (i v : Nat) (key : D) (env : Env) : Option (Option (List L2.Key) × List OT × Nat × Env) := match env[v]? with
  | some (some (.nod g ts)) => (match posG g ts.length key with
    | some j => (match ts[j]? with
      | some (.nod g1 us) => if i < env.length ∧ i ≠ v then some (g, ts, j, (env.set v none).set i (some (.nod g1 us))) else none
      | _ => none)
    | none => none)
  | _ => none
def aliOut (i v : Nat) (g : Option (List L2.Key)) (ts : List OT) (j : Nat) (e2 : Env) : Option Env := match e2[v]?, e2[i]? with
  | some none, some (some (.nod g2 us)) => some ((e2.set i none).set v (some (.nod g (ts.set j (.nod g2 us)))))
  | _, _ => none

/-! ### what a loop walks -/
inductive Src where
  | fix (ds : List D)
  | live (i : Nat) (w : Bool)
/-- what is walked is no name that the loop stores -/
def Src.free : Src → List Nat → Bool
  | .fix _, _ => true
  | .live i _, l => !l.contains i
def wrapAt (w : Bool) (j : Nat) (d : D) : D := if w then .tuple [.int j, d] else d
def Src.get : Src → Nat → Env → Option (Option D)
  | .fix ds, j, _ => some ds[j]?
  | .live i w, j, env => match env[i]? with
    | some (some (.lst ts)) => match ts[j]? with
      | none => some none
      | some (.leaf d) => some (some (wrapAt w j d))
      | some (.nod _ _) => none
    | some (some (.leaf (.list ds))) => some ((ds[j]?).map (wrapAt w j))
    | _ => none
def rangeD (lo : Int) (n : Nat) : List D := (List.range n).map fun (k : Nat) => .int (lo + k)
def enumD : Nat → List D → List D
  | _, [] => []
  | k, d :: r => .tuple [.int k, d] :: enumD (k + 1) r
def zipD : List D → List D → List D
  | x :: xs, y :: ys => .tuple [x, y] :: zipD xs ys
  | _, _ => []
/-- the source of a walked result: its items, how many -/
def srcOf (w : Bool) : R → Env → Option (Src × Nat)
  | .own (.leaf (.list ds)), _ => some (.fix (if w then enumD 0 ds else ds), ds.length)
  | .own (.leaf (.tuple ds)), _ => some (.fix (if w then enumD 0 ds else ds), ds.length)
  | .own (.lst ts), _ => match leaves ts with
    | some ds => some (.fix (if w then enumD 0 ds else ds), ds.length)
    | none => none
  | .al i [], env => match env[i]? with
    | some (some (.lst ts)) => some (.live i w, ts.length)
    | _ => none
  | _, _ => none
def rangeSrc : List D → Option (Src × Nat)
  | [.int hi] => if -(2 ^ 62) ≤ hi ∧ hi < 2 ^ 62 then some (.fix (rangeD 0 hi.toNat), hi.toNat) else none
  | [.int lo, .int hi] => if (-(2 ^ 62) ≤ lo ∧ lo < 2 ^ 62) ∧ -(2 ^ 62) ≤ hi ∧ hi < 2 ^ 62 then some (.fix (rangeD lo (hi - lo).toNat), (hi - lo).toNat) else none
  | _ => none
def seqOf : OT → Option (Bool × List D)
  | .leaf (.list ds) => some (true, ds)
  | .leaf (.tuple ds) => some (false, ds)
  | _ => none

inductive Out where
  | nx | bk | ct
  | ret (t : OT)

/-- a comprehension's turns -/
def compLoop (g : Nat → Env → Option (Option D)) (step : D → Env → Option (Option OT × Env)) : Nat → Nat → List OT → Env → Option (List OT × Env)
  | n, j, acc, env => match g j env with
    | none => none
    | some none => some (acc, env)
    | some (some d) => match n with
      | 0 => none
      | n + 1 => match step d env with
        | some (some t, env1) => if acc.length < sizeLine then compLoop g step n (j + 1) (acc ++ [t]) env1 else none
        | some (none, env1) => compLoop g step n (j + 1) acc env1
        | none => none
/-- a for's turns -/
def forLoop (g : Nat → Env → Option (Option D)) (step : D → Env → Option (Out × Env)) : Nat → Nat → Env → Option (Out × Env)
  | n, j, env => match g j env with
    | none => none
    | some none => some (.nx, env)
    | some (some d) => match n with
      | 0 => none
      | n + 1 => match step d env with
        | some (.nx, env1) => forLoop g step n (j + 1) env1
        | some (.ct, env1) => forLoop g step n (j + 1) env1
        | some (.bk, env1) => some (.nx, env1)
        | some (.ret t, env1) => some (.ret t, env1)
        | none => none
def whileLoop (test : Env → Option (Bool × Env)) (body : Env → Option (Out × Env)) : Nat → Env → Option (Out × Env)
  | 0, _ => none
  | n + 1, env => match test env with
    | some (true, env1) => match body env1 with
      | some (.nx, env2) => whileLoop test body n env2
      | some (.ct, env2) => whileLoop test body n env2
      | some (.bk, env2) => some (.nx, env2)
      | some (.ret t, env2) => some (.ret t, env2)
      | none => none
    | some (false, env1) => some (.nx, env1)
    | none => none
def whileFuel : Nat := 2 ^ 100

/-! ### the evaluation -/
abbrev Fn := Nat → List OT → Option (OT × List (Option OT))
structure Ctx where
  fn : Fn
  keep : Nat → Nat → Bool

def boolOf : Option (R × Env) → Option (Bool × Env)
  | some (.own (.leaf (.bool b)), env) => some (b, env)
  | _ => none
/-- the slots of a comprehension's own names: nothing owned there -/
def slotsFree (env : Env) : List Nat → Bool
  | [] => true
  | i :: r => (match env[i]? with
    | some none => true
    | some (some (.leaf _)) => true
    | _ => false) && slotsFree env r
def wipeE (env : Env) : List Nat → Env
  | [] => env
  | i :: r => (wipeE env r).set i none
def restore (env0 : Env) : List Nat → Env → Env
  | [], env => env
  | i :: r, env => (restore env0 r env).set i (env0.getD i none)

/-- arguments that a callee must not hold as lists of the caller are shared first -/
def prepArgs (keep : Nat → Bool) : Nat → List R → Env → Option (List R × Env)
  | _, [], env => some ([], env)
  | j, .al i [] :: rs, env => if keep j then (match prepArgs keep (j + 1) rs env with
      | some (qs, e) => some (.al i [] :: qs, e)
      | none => none) else (match env[i]? with
      | some (some t) => match prepArgs keep (j + 1) rs (env.set i (some (.leaf t.dat))) with
        | some (qs, e) => some (.own (.leaf t.dat) :: qs, e)
        | none => none
      | _ => none)
  | j, .own t :: rs, env => match prepArgs keep (j + 1) rs env with
    | some (qs, e) => some (.own t :: qs, e)
    | none => none
  | _, .al _ (_ :: _) :: _, _ => none
/-- the trees that are handed over -/
def argTrees (env : Env) : List R → Option (List OT)
  | [] => some []
  | r :: rs => match r.tree env with
    | some t => (argTrees env rs).map (t :: ·)
    | none => none
/-- the variables that are lent -/
def lent : List R → List Nat
  | [] => []
  | .al i _ :: rs => i :: lent rs
  | .own _ :: rs => lent rs
def dropLent : List R → Env → Env
  | [], env => env
  | .al i _ :: rs, env => dropLent rs (env.set i none)
  | .own _ :: rs, env => dropLent rs env
/-- what comes back into them -/
def giveBack : List R → List (Option OT) → Env → Env
  | .al i _ :: rs, t :: ts, env => giveBack rs ts (env.set i t)
  | .own _ :: rs, _ :: ts, env => giveBack rs ts env
  | _, _, env => env
def nodupB : List Nat → Bool
  | [] => true
  | i :: r => !r.contains i && nodupB r
def pick {α : Type} (rs : List α) : List Nat → Option (List α)
  | [] => some []
  | i :: is => match rs[i]? with
    | some r => (pick rs is).map (r :: ·)
    | none => none
def callSem (Γ : Ctx) (f : Nat) (rs : List R) (env : Env) : Option (R × Env) :=
  match prepArgs (Γ.keep f) 0 rs env with
  | some (qs, env1) => if nodupB (lent qs) then (match argTrees env1 qs with
    | some ts => match Γ.fn f ts with
      | some (t, fin) => if fin.length = ts.length then some (.own t, giveBack qs fin (dropLent qs env1)) else none
      | none => none
    | none => none) else none
  | none => none
def anyDeep : List R → Bool
  | [] => false
  | r :: rs => r.deep || anyDeep rs

mutual
def ev (Γ : Ctx) : E → Env → Option (R × Env)
  | .var i, env => match env[i]? with
    | some (some (.leaf d)) => some (.own (.leaf d), env)
    | some (some (.nod _ _)) => some (.al i [], env)
    | _ => none
  | .c d, env => some (.own (.leaf d), env)
  | .op o as, env => match evs Γ as env with
    | some (rs, env1) => opSem o rs env1
    | none => none
  | .and a b, env => match boolOf (ev Γ a env) with
    | some (true, e1) => ev Γ b e1
    | some (false, e1) => some (.own (.leaf (.bool false)), e1)
    | none => none
  | .or a b, env => match boolOf (ev Γ a env) with
    | some (true, e1) => some (.own (.leaf (.bool true)), e1)
    | some (false, e1) => ev Γ b e1
    | none => none
  | .not a, env => match boolOf (ev Γ a env) with
    | some (b, e1) => some (.own (.leaf (.bool (!b))), e1)
    | none => none
  | .ite c a b, env => match boolOf (ev Γ c env) with
    | some (true, e1) => ev Γ a e1
    | some (false, e1) => ev Γ b e1
    | none => none
  | .chain o p a b c, env => match ev Γ a env with
    | some (ra, e1) => if ra.deep && !b.quiet then none else (match ev Γ b e1 with
      | some (rb, e2) => if isFlat o && isFlat p then (match dats e2 [ra, rb] with
        | some ds => match flatSem o ds with
          | some (.bool true) => if rb.deep && !c.quiet then none else (match ev Γ c e2 with
            | some (rc, e3) => match dats e3 [rb, rc] with
              | some es => (flatSem p es).map fun d => (.own (.leaf d), e3)
              | none => none
            | none => none)
          | some (.bool false) => some (.own (.leaf (.bool false)), e2)
          | _ => none
        | none => none) else none
      | none => none)
    | none => none
  | .sl a lo hi, env => match ev Γ a env with
    | some (ra, e1) => if ra.deep then none else (match evP Γ lo e1 with
      | some (l, e2) => match evP Γ hi e2 with
        | some (h, e3) => slSem ra l h e3
        | none => none
      | none => none)
    | none => none
  | .meth m o as, env => match ev Γ o env with
    | some (r, e1) => if isListR r e1 && !(r.deep && !as.quiet) then (match evs Γ as e1 with
      | some (rs, e2) => mtSem m r rs e2
      | none => none) else none
    | none => none
  | .call f as kw perm, env => match evs Γ as env with
    | some (rs, env1) => if anyDeep rs then none else (match evs Γ kw env1 with
      | some (ks, env2) => if anyDeep ks then none else (match pick (rs ++ ks) perm with
        | some qs => if nodupB perm then callSem Γ f qs env2 else none
        | none => none)
      | none => none)
    | none => none
  | .comp elt t it cond own, env => match evIt Γ it env with
    | some (src, n, env1) => if slotsFree env1 (own.map (·.2)) && src.free (own.map (·.2)) then (match compLoop src.get (fun d e => match setT Γ t (.leaf d) (wipeE e (own.map (·.2))) with
        | some e1 => match evC Γ cond e1 with
          | some (true, e2) => match ev Γ elt e2 with
            | some (r, e3) => match r.take e3 with
              | some (x, e4) => some (some x, e4)
              | none => none
            | none => none
          | some (false, e2) => some (none, e2)
          | none => none
        | none => none) n 0 [] env1 with
      | some (ts, env2) => some (.own (.lst ts), restore env1 (own.map (·.2)) env2)
      | none => none) else none
    | none => none
  | .dct ks vs, env => match evs Γ vs env with
    | some (rs, e1) => match takes rs e1 with
      | some (ts, e2) => if ks.length = ts.length then some (.own (.nod (some ks) ts), e2) else none
      | none => none
    | none => none
def evs (Γ : Ctx) : Es → Env → Option (List R × Env)
  | .nil, env => some ([], env)
  | .cons e es, env => match ev Γ e env with
    | some (r, env1) => if r.deep && !es.quiet then none else (match evs Γ es env1 with
      | some (rs, env2) => some (r :: rs, env2)
      | none => none)
    | none => none
def evC (Γ : Ctx) : C → Env → Option (Bool × Env)
  | .non, env => some (true, env)
  | .some e, env => boolOf (ev Γ e env)
/-- a part of a slice -/
def evP (Γ : Ctx) : C → Env → Option (Option Int × Env)
  | .non, env => some (none, env)
  | .some e, env => match ev Γ e env with
    | some (.own (.leaf (.int i)), e1) => some (some i, e1)
    | _ => none
def evIt (Γ : Ctx) : It → Env → Option (Src × Nat × Env)
  | .seq e, env => match ev Γ e env with
    | some (r, env1) => (srcOf false r env1).map fun q => (q.1, q.2, env1)
    | none => none
  | .range as, env => match evs Γ as env with
    | some (rs, env1) => match dats env1 rs with
      | some ds => (rangeSrc ds).map fun q => (q.1, q.2, env1)
      | none => none
    | none => none
  | .enum e, env => match ev Γ e env with
    | some (r, env1) => (srcOf true r env1).map fun q => (q.1, q.2, env1)
    | none => none
  | .zip a b, env => match ev Γ a env with
    | some (ra, e1) => match ra.take e1 with
      | some (ta, e2) => match ev Γ b e2 with
        | some (rb, e3) => match rb.take e3 with
          | some (tb, e4) => match ta.sh, tb.sh with
            | some (.list xs), some (.list ys) => some (.fix (zipD xs ys), (zipD xs ys).length, e4)
            | some (.tuple xs), some (.tuple ys) => some (.fix (zipD xs ys), (zipD xs ys).length, e4)
            | _, _ => none
          | none => none
        | none => none
      | none => none
    | none => none
/-- a target stored -/
def setT (Γ : Ctx) : T → OT → Env → Option Env
  | .nm i, t, env => if i < env.length then some (env.set i (some t)) else none
  | .tup ts, .leaf (.tuple ds), env => setTs Γ ts (ds.map .leaf) env
  | .tup _, _, _ => none
  | .sub o i, t, env => match ev Γ o env with
    | some (.al v p, e1) => if !p.isEmpty && !i.quiet then none else (match ev Γ i e1 with
      | some (ri, e2) => match ri.dat e2 with
        | some y => match e2.look v p with
          | some (.nod g xs) => match posG g xs.length y with
            | some j => match roomG g with
              | true => e2.put v p (.nod g (xs.set j t))
              | false => none
            | none => match g with
              | some ks => match keyOf y with
                | some key => match roomG (some ks) with
                  | true => e2.put v p (.nod (some (ks ++ [key])) (xs ++ [t]))
                  | false => none
                | none => none
              | none => none
          | _ => none
        | none => none
      | none => none)
    | _ => none
def setTs (Γ : Ctx) : Ts → List OT → Env → Option Env
  | .nil, [], env => some env
  | .cons t ts, x :: xs, env => match setT Γ t x env with
    | some e1 => setTs Γ ts xs e1
    | none => none
  | _, _, _ => none
end
mutual
def exec (Γ : Ctx) : S → Env → Option (Out × Env)
  | .asg i e, env => match ev Γ e env with
    | some (r, e1) => match r.take e1 with
      | some (t, e2) => if i < e2.length then some (.nx, e2.set i (some t)) else none
      | none => none
    | none => none
  | .par ts es, env => match evs Γ es env with
    | some (rs, e1) => match takes rs e1 with
      | some (xs, e2) => (setTs Γ ts xs e2).map fun e => (.nx, e)
      | none => none
    | none => none
  | .unp t e, env => match ev Γ e env with
    | some (r, e1) => match r.take e1 with
      | some (x, e2) => (setT Γ (.tup t) x e2).map fun e => (.nx, e)
      | none => none
    | none => none
  | .put o i e, env => match ev Γ e env with
    | some (r, e1) => match r.take e1 with
      | some (x, e2) => (setT Γ (.sub o i) x e2).map fun e => (.nx, e)
      | none => none
    | none => none
  | .ex e, env => (ev Γ e env).map fun q => (.nx, q.2)
  | .ret e, env => match ev Γ e env with
    | some (.own t, e1) => some (.ret t, e1)
    | some (.al i [], e1) => match e1[i]? with
      | some (some t) => some (.ret t, e1.set i none)
      | _ => none
    | _ => none
  | .retN, env => some (.ret (.leaf .none), env)
  | .ife c a b, env => match boolOf (ev Γ c env) with
    | some (true, e1) => execs Γ a e1
    | some (false, e1) => execs Γ b e1
    | none => none
  | .loop t it b, env => match evIt Γ it env with
    | some (src, n, e1) => if !src.free (t.asgs ++ b.asgs) then none else forLoop src.get (fun d e => match setT Γ t (.leaf d) e with
      | some e2 => execs Γ b e2
      | none => none) n 0 e1
    | none => none
  | .whl c b, env => whileLoop (fun e => boolOf (ev Γ c e)) (fun e => execs Γ b e) whileFuel env
  | .brk, env => some (.bk, env)
  | .cont, env => some (.ct, env)
  | .pass, env => some (.nx, env)
def execs (Γ : Ctx) : Ss → Env → Option (Out × Env)
  | .nil, env => some (.nx, env)
  | .cons s ss, env => match exec Γ s env with
    | some (.nx, e1) => execs Γ ss e1
    | some (o, e1) => some (o, e1)
    | none => none
  | .ali i v key s ss, env => if (s.asgs.contains i || s.asgs.contains v) = true then none else match aliIn i v key env with
    | some (g, ts, j, e1) => match exec Γ s e1 with
      | some (o, e2) => match aliOut i v g ts j e2 with
        | some e3 => match o with
          | .nx => execs Γ ss e3
          | .bk => some (.bk, e3)
          | .ct => some (.ct, e3)
          | .ret t => some (.ret t, e3)
        | none => none
      | none => none
    | none => none
end

/-- a def: its name, its parameters' number, all its names (the comprehensions' too), its body -/
structure Def where
  name : Str
  n : Nat
  N : List Str
  body : Ss
  /-- how it is called: so many arguments by place, these by name -/
  kws : List (Nat × List Str) := []
  /-- no def but a constant of the module under this name -/
  const : Option D := none
def Def.keep (d : Def) (j : Nat) : Bool := !d.body.asgs.contains j
def startE (d : Def) (ts : List OT) : Env := ts.map some ++ List.replicate (d.N.length - ts.length) none
/-- the parameters behind the body, those that were never stored anew -/
def Def.fin (d : Def) (env : Env) : List (Option OT) := (List.range d.n).map fun j => if d.keep j then env.getD j none else none
def runDef (Γ : Ctx) (d : Def) (ts : List OT) : Option (OT × List (Option OT)) :=
  if ts.length = d.n then (match execs Γ d.body (startE d ts) with
    | some (.ret t, env) => some (t, d.fin env)
    | some (.nx, env) => some (.leaf .none, d.fin env)
    | _ => none) else none
def keepOf (P : List Def) (f j : Nat) : Bool := match P[f]? with
  | some d => d.keep j
  | none => false
def run (P : List Def) : Nat → Fn
  | 0 => fun _ _ => none
  | k + 1 => fun f ts => match P[f]? with
    | some d => runDef ⟨run P k, keepOf P⟩ d ts
    | none => none
end PyI

/-! How the evaluator's values lie in a heap. F: the shared part (never changed), H: the whole. -/
namespace PyI
open PySem L2

/-- a list that is read: tracked, frozen, or written as a plain list at the top -/
def SqX (K : PySem.W.Frag) (H : Hp) (a : Addr) (xs : List V) : Prop :=
  Rd H a (.lst xs) ∨ ∃ (its : List Value) (n : Nat), K.lookup a = some { cls := .type "list", data := .seq its.toArray n } ∧ Vals xs its ∧ xs.length ≤ sizeLine
theorem SqX.of {K : PySem.W.Frag} {H : Hp} {a : Addr} {xs : List V} (h : H a = some (.lst xs)) : SqX K H a xs := .inl (.inl h)
theorem SqX.sq {K : PySem.W.Frag} {H : Hp} {a : Addr} {xs : List V} (h : SqX K H a xs) : SqL K H a xs := by
  rcases h with h | ⟨its, n, h1, h2, h3⟩
  · exact .inl h
  · exact .inr ⟨_, its.toArray, n, h1, rfl, rfl, rfl, by rw [List.size_toArray, ← h2.length]; exact h3, by simpa using h2⟩
-- how a datum lies
mutual
inductive Dq (K : PySem.W.Frag) (H : Hp) : V → D → Prop
  | non : Dq K H .non .none
  | bl (b : Bool) : Dq K H (.bl b) (.bool b)
  | int (i : Int) : Dq K H (.int i) (.int i)
  | str (x : Str) : Dq K H (.str x) (.str x)
  | lst {a : Addr} {xs : List V} {ds : List D} : SqX K H a xs → DqAll K H xs ds → Dq K H (.ref a) (.list ds)
  | tup {a : Addr} {xs : List V} {ds : List D} : SqT K H a xs → DqAll K H xs ds → Dq K H (.ref a) (.tuple ds)
  | dic {a : Addr} {ks : List Key} {vs : List V} {ds : List D} {kvs : List (D × D)} : Rd H a (.dK (ks.zip vs)) → ks.length = vs.length → DqAll K H vs ds → kvs = (ks.map keyD).zip ds → Dq K H (.ref a) (.dict kvs)
inductive DqAll (K : PySem.W.Frag) (H : Hp) : List V → List D → Prop
  | nil : DqAll K H [] []
  | cons {v : V} {vs : List V} {d : D} {ds : List D} : Dq K H v d → DqAll K H vs ds → DqAll K H (v :: vs) (d :: ds)
end
mutual
theorem Dq.dp {K : PySem.W.Frag} {H : Hp} : ∀ (d : D) (v : V), d.hasDict = false → Dq K H v d → Dp K H v d
  | .none, _, _, h => by cases h; exact .non
  | .bool b, _, _, h => by cases h; exact .bl b
  | .int i, _, _, h => by cases h; exact .int i
  | .str x, _, _, h => by cases h; exact .str x
  | .list ds, _, n, h => by
    unfold PyData.hasDict at n
    cases h with | lst h1 h2 => exact .lst h1.sq (DqAll.dp ds _ n h2)
  | .tuple ds, _, n, h => by
    unfold PyData.hasDict at n
    cases h with | tup h1 h2 => exact .tup h1 (DqAll.dp ds _ n h2)
  | .dict _, _, n, _ => by unfold PyData.hasDict at n; cases n
theorem DqAll.dp {K : PySem.W.Frag} {H : Hp} : ∀ (ds : List D) (vs : List V), PyData.hasDictAll ds = false → DqAll K H vs ds → DpAll K H vs ds
  | [], _, _, h => by cases h; exact .nil
  | d :: ds, _, n, h => by
    unfold PyData.hasDictAll at n
    obtain ⟨n1, n2⟩ := Bool.or_eq_false_iff.mp n
    cases h with | cons h1 h2 => exact .cons (Dq.dp d _ n1 h1) (DqAll.dp ds _ n2 h2)
end
section mono
variable {K : PySem.W.Frag} {F F' : Hp}
theorem sqX_mono {a : Addr} {xs : List V} (h : SqX K F a xs) (e : Same F F') : SqX K F' a xs := by
  rcases h with (h | ⟨o, h⟩) | h
  · exact .inl (.inl (e _ _ h))
  · exact .inl (.inr ⟨o, e _ _ h⟩)
  · exact .inr h
theorem sqT_mono {a : Addr} {xs : List V} (h : SqT K F a xs) (e : Same F F') : SqT K F' a xs := by
  rcases h with (h | ⟨o, h⟩) | h
  · exact .inl (.inl (e _ _ h))
  · exact .inl (.inr ⟨o, e _ _ h⟩)
  · exact .inr h
mutual
theorem dp_mono (e : Same F F') : ∀ (d : D) (v : V), Dq K F v d → Dq K F' v d
  | _, _, .non => .non
  | _, _, .bl b => .bl b
  | _, _, .int i => .int i
  | _, _, .str x => .str x
  | _, _, .lst h1 h2 => .lst (sqX_mono h1 e) (dps_mono e _ _ h2)
  | _, _, .tup h1 h2 => .tup (sqT_mono h1 e) (dps_mono e _ _ h2)
  | _, _, .dic h1 h2 h3 h4 => .dic (h1.elim (fun z => .inl (e _ _ z)) fun ⟨o, z⟩ => .inr ⟨o, e _ _ z⟩) h2 (dps_mono e _ _ h3) h4
theorem dps_mono (e : Same F F') : ∀ (ds : List D) (vs : List V), DqAll K F vs ds → DqAll K F' vs ds
  | _, _, .nil => .nil
  | _, _, .cons h1 h2 => .cons (dp_mono e _ _ h1) (dps_mono e _ _ h2)
end
end mono

/-- a node as an object -/
def hoOf : Option (List Key) → List V → HO
  | none, vs => .lst vs
  | some ks, vs => .dK (ks.zip vs)
def gOk : Option (List Key) → List V → Prop
  | none, _ => True
  | some ks, vs => ks.length = vs.length ∧ ks.Nodup
theorem zip_inj : ∀ {ks js : List Key} {vs us : List V}, ks.length = vs.length → js.length = us.length → ks.zip vs = js.zip us → ks = js ∧ vs = us
  | [], [], [], [], _, _, _ => ⟨rfl, rfl⟩
  | k :: ks, j :: js, v :: vs, u :: us, h1, h2, h => by
    rw [List.zip_cons_cons, List.zip_cons_cons] at h
    injection h with e1 e2
    injection e1 with e1 e3
    obtain ⟨q1, q2⟩ := zip_inj (Nat.succ.inj h1) (Nat.succ.inj h2) e2
    exact ⟨by rw [e1, q1], by rw [e3, q2]⟩
  | [], _ :: _, [], [], _, h, _ => nomatch h
  | [], j :: js, [], u :: us, _, _, h => nomatch h
  | k :: ks, [], v :: vs, [], _, _, h => nomatch h
  | [], _, _ :: _, _, h, _, _ => nomatch h
  | _ :: _, _, [], _, h, _, _ => nomatch h
  | [], [], [], _ :: _, _, h, _ => nomatch h
  | _ :: _, [], _ :: _, _ :: _, _, h, _ => nomatch h
  | _ :: _, _ :: _, _ :: _, [], _, h, _ => nomatch h
theorem hoOf_inj {g g' : Option (List Key)} {vs us : List V} (h1 : gOk g vs) (h2 : gOk g' us) (h : hoOf g vs = hoOf g' us) : g = g' ∧ vs = us := by
  cases g with
  | none => cases g' with
    | none => injection h with h; exact ⟨rfl, h⟩
    | some _ => cases h
  | some ks => cases g' with
    | none => cases h
    | some js =>
      injection h with h
      obtain ⟨q1, q2⟩ := zip_inj h1.1 h2.1 h
      exact ⟨by rw [q1], q2⟩
/-! keys -/
theorem posK_some : ∀ {ks : List Key} {k : Key} {j : Nat}, posK ks k = some j → ks[j]? = some k
  | x :: r, k, j, h => by
    unfold posK at h
    split at h
    · rename_i c; cases h; rw [c]; rfl
    · obtain ⟨i, h1, rfl⟩ := Option.map_eq_some_iff.mp h
      exact posK_some (ks := r) h1
theorem valV_pos2 : ∀ {ks : List Key} {vs : List V} {k : Key} {j : Nat} {v : V}, posK ks k = some j → vs[j]? = some v → valV (ks.zip vs) k = some v
  | x :: r, [], k, j, v, h, hv => by simp at hv
  | x :: r, u :: us, k, j, v, h, hv => by
    unfold posK at h
    rw [List.zip_cons_cons]
    split at h
    · rename_i c
      cases h
      rw [valV_pos (p := (x, u)) c]
      simpa using hv
    · rename_i c
      obtain ⟨i, h1, rfl⟩ := Option.map_eq_some_iff.mp h
      rw [valV_neg (p := (x, u)) c]
      exact valV_pos2 h1 (by simpa using hv)
theorem valV_none2 : ∀ {ks : List Key} {vs : List V} {k : Key}, posK ks k = none → valV (ks.zip vs) k = none
  | [], _, _, _ => rfl
  | x :: r, [], _, _ => rfl
  | x :: r, u :: us, k, h => by
    unfold posK at h
    rw [List.zip_cons_cons]
    split at h
    · cases h
    · rename_i c
      rw [valV_neg (p := (x, u)) c]
      refine valV_none2 ?_
      cases hq : posK r k with
      | none => rfl
      | some i => rw [hq] at h; cases h
theorem posK_lt {ks : List Key} {k : Key} {j : Nat} (h : posK ks k = some j) : j < ks.length := (List.getElem?_eq_some_iff.mp (posK_some h)).1
theorem posK_isSome {ks : List Key} {vs : List V} {k : Key} (hl : ks.length = vs.length) : (posK ks k).isSome = (valV (ks.zip vs) k).isSome := by
  cases h : posK ks k with
  | none => rw [valV_none2 h]; rfl
  | some j =>
    have := posK_lt h
    rw [valV_pos2 h (List.getElem?_eq_getElem (by omega))]; rfl
theorem keyOf_keyD (k : Key) : keyOf (keyD k) = some k := by cases k <;> rfl
theorem keys_zip : ∀ {ks : List Key} {ds : List D}, ks.length = ds.length → ((ks.map keyD).zip ds).filterMap (fun kv => keyOf kv.1) = ks
  | [], _, _ => rfl
  | k :: ks, d :: ds, h => by
    rw [List.map_cons, List.zip_cons_cons, List.filterMap_cons]
    simp only [keyOf_keyD]
    rw [keys_zip (Nat.succ.inj h)]
theorem zip_get {ks : List Key} {ds : List D} {j : Nat} {x : D × D} (h : ((ks.map keyD).zip ds)[j]? = some x) : ds[j]? = some x.2 := by
  rw [List.getElem?_zip_eq_some] at h
  exact h.2
theorem dq_key {K : PySem.W.Frag} {H : Hp} {y : V} {d : D} {k : Key} (h : Dq K H y d) (e : keyOf d = some k) : y = kV k := by
  cases h <;> (unfold keyOf at e; cases e) <;> rfl
mutual
inductive OR (K : PySem.W.Frag) (F H : Hp) : V → OT → List Addr → Prop
  | leaf {v : V} {d : D} : Dq K F v d → OR K F H v (.leaf d) []
  | nod {a : Addr} {g : Option (List Key)} {vs : List V} {ts : List OT} {l : List Addr} : H a = some (hoOf g vs) → gOk g vs → F a = none → ORs K F H vs ts l → OR K F H (.ref a) (.nod g ts) (a :: l)
inductive ORs (K : PySem.W.Frag) (F H : Hp) : List V → List OT → List Addr → Prop
  | nil : ORs K F H [] [] []
  | cons {v : V} {t : OT} {vs : List V} {ts : List OT} {l m : List Addr} : OR K F H v t l → ORs K F H vs ts m → ORs K F H (v :: vs) (t :: ts) (l ++ m)
end

/-- from a state whose owned part is L to one whose owned part is L' -/
structure Step (F H : Hp) (L : Addr → Prop) (F' H' : Hp) (L' : Addr → Prop) : Prop where
  fs : Same F F'
  fh : Same F' H'
  keep : ∀ b o, H b = some o → ¬ L b → H' b = some o ∧ F' b = F b
  dom : ∀ b, H' b = none → H b = none
  own : ∀ a, L' a → L a ∨ H a = none

theorem OR.lst {K : PySem.W.Frag} {F H : Hp} {a : Addr} {vs : List V} {ts : List OT} {l : List Addr} (h1 : H a = some (.lst vs)) (h2 : F a = none) (h3 : ORs K F H vs ts l) : OR K F H (.ref a) (.lst ts) (a :: l) := .nod (g := none) h1 trivial h2 h3
theorem OR.lst_inv {K : PySem.W.Frag} {F H : Hp} {v : V} {ts : List OT} {l : List Addr} (h : OR K F H v (.lst ts) l) : ∃ a vs m, v = .ref a ∧ l = a :: m ∧ H a = some (.lst vs) ∧ F a = none ∧ ORs K F H vs ts m := by
  cases h with | nod h1 h2 h3 h4 => exact ⟨_, _, _, rfl, rfl, h1, h3, h4⟩
section
variable {K : PySem.W.Frag} {F H F' H' F1 H1 F2 H2 : Hp} {L L' L1 L2 : Addr → Prop}
theorem Step.refl (h : Same F H) (hl : ∀ a, L' a → L a) : Step F H L F H L' :=
  ⟨Same.refl F, h, fun _ _ e _ => ⟨e, rfl⟩, fun _ e => e, fun a q => .inl (hl a q)⟩
theorem Step.trans (s : Step F H L F1 H1 L1) (t : Step F1 H1 L1 F2 H2 L2) : Step F H L F2 H2 L2 where
  fs := s.fs.trans t.fs
  fh := t.fh
  keep := fun b o e n => by
    obtain ⟨e1, f1⟩ := s.keep b o e n
    have n1 : ¬ L1 b := fun q => (s.own b q).elim n fun z => by rw [e] at z; cases z
    obtain ⟨e2, f2⟩ := t.keep b o e1 n1
    exact ⟨e2, f2.trans f1⟩
  dom := fun b e => s.dom b (t.dom b e)
  own := fun a q => (t.own a q).elim (s.own a) fun z => .inr (s.dom a z)
theorem Step.weak (s : Step F H L F' H' L') {L2 : Addr → Prop} (h : ∀ a, L2 a → L' a) : Step F H L F' H' L2 := { s with own := fun a q => s.own a (h a q) }
/-- more is owned, and stays as it is -/
theorem Step.frame (s : Step F H L F' H' L') {M : Addr → Prop} (hm : ∀ a, M a → ¬ L a) (hM : ∀ a, M a → ∃ o, H a = some o) : Step F H (fun a => M a ∨ L a) F' H' (fun a => M a ∨ L' a) where
  fs := s.fs
  fh := s.fh
  keep := fun b o e n => s.keep b o e fun q => n (.inr q)
  dom := s.dom
  own := fun a q => q.elim (fun z => .inl (.inl z)) fun z => (s.own a z).elim (fun y => .inl (.inr y)) .inr

mutual
theorem or_foot : ∀ (t : OT) (v : V) (l : List Addr), OR K F H v t l → ∀ a ∈ l, (∃ o, H a = some o) ∧ F a = none
  | .leaf d, _, _, h => by cases h; intro a ha; cases ha
  | .nod g ts, _, _, h => by
    cases h with
    | nod h1 h0 h2 h3 =>
      intro a ha
      rcases List.mem_cons.mp ha with e | ha
      · subst e; exact ⟨⟨_, h1⟩, h2⟩
      · exact ors_foot ts _ _ h3 a ha
theorem ors_foot : ∀ (ts : List OT) (vs : List V) (l : List Addr), ORs K F H vs ts l → ∀ a ∈ l, (∃ o, H a = some o) ∧ F a = none
  | [], _, _, h => by cases h; intro a ha; cases ha
  | t :: ts, _, _, h => by
    cases h with
    | cons h1 h2 =>
      intro a ha
      rcases List.mem_append.mp ha with ha | ha
      · exact or_foot t _ _ h1 a ha
      · exact ors_foot ts _ _ h2 a ha
end
mutual
/-- a tree stays where its own lists stay -/
theorem or_keep (fs : Same F F') : ∀ (t : OT) (v : V) (l : List Addr), OR K F H v t l → (∀ a o, a ∈ l → H a = some o → H' a = some o ∧ F' a = F a) → OR K F' H' v t l
  | .leaf d, _, _, h, _ => by cases h with | leaf h1 => exact .leaf (dp_mono fs d _ h1)
  | .nod g ts, _, _, h, k => by
    cases h with
    | nod h1 h0 h2 h3 =>
      obtain ⟨q1, q2⟩ := k _ _ List.mem_cons_self h1
      exact .nod q1 h0 (q2.trans h2) (ors_keep fs ts _ _ h3 fun a o ha => k a o (List.mem_cons_of_mem _ ha))
theorem ors_keep (fs : Same F F') : ∀ (ts : List OT) (vs : List V) (l : List Addr), ORs K F H vs ts l → (∀ a o, a ∈ l → H a = some o → H' a = some o ∧ F' a = F a) → ORs K F' H' vs ts l
  | [], _, _, h, _ => by cases h; exact .nil
  | t :: ts, _, _, h, k => by
    cases h with
    | cons h1 h2 =>
      exact .cons (or_keep fs t _ _ h1 fun a o ha => k a o (List.mem_append_left _ ha)) (ors_keep fs ts _ _ h2 fun a o ha => k a o (List.mem_append_right _ ha))
end
mutual
/-- .. and is data of any heap between that has its lists -/
theorem or_dat {G : Hp} (fg : Same F G) : ∀ (t : OT) (v : V) (l : List Addr), OR K F H v t l → (∀ a o, a ∈ l → H a = some o → G a = some o) → Dq K G v t.dat
  | .leaf d, _, _, h, _ => by cases h with | leaf h1 => exact dp_mono fg d _ h1
  | .nod (some ks) ts, _, _, h, k => by
    cases h with
    | nod h1 h0 h2 h3 =>
      unfold OT.dat
      exact .dic (.inl (k _ _ List.mem_cons_self h1)) h0.1 (ors_dat fg ts _ _ h3 fun a o ha => k a o (List.mem_cons_of_mem _ ha)) rfl
  | .nod none ts, _, _, h, k => by
    cases h with
    | nod h1 h0 h2 h3 =>
      unfold OT.dat
      exact .lst (SqX.of (k _ _ List.mem_cons_self h1)) (ors_dat fg ts _ _ h3 fun a o ha => k a o (List.mem_cons_of_mem _ ha))
theorem ors_dat {G : Hp} (fg : Same F G) : ∀ (ts : List OT) (vs : List V) (l : List Addr), ORs K F H vs ts l → (∀ a o, a ∈ l → H a = some o → G a = some o) → DqAll K G vs (OT.dats ts)
  | [], _, _, h, _ => by cases h; unfold OT.dats; exact .nil
  | t :: ts, _, _, h, k => by
    cases h with
    | cons h1 h2 =>
      unfold OT.dats
      exact .cons (or_dat fg t _ _ h1 fun a o ha => k a o (List.mem_append_left _ ha)) (ors_dat fg ts _ _ h2 fun a o ha => k a o (List.mem_append_right _ ha))
end
theorem or_datH (fh : Same F H) {t : OT} {v : V} {l : List Addr} (h : OR K F H v t l) : Dq K H v t.dat := or_dat fh t v l h fun _ _ _ e => e
theorem ors_leaves : ∀ (ts : List OT) (ds : List D) (vs : List V) (l : List Addr), leaves ts = some ds → ORs K F H vs ts l → l = [] ∧ DqAll K F vs ds ∧ ts = ds.map .leaf
  | [], _, _, _, e, h => by cases e; cases h; exact ⟨rfl, .nil, rfl⟩
  | .leaf d :: ts, ds, _, _, e, h => by
    unfold leaves at e
    obtain ⟨es, e1, e2⟩ := Option.map_eq_some_iff.mp e
    subst e2
    cases h with
    | cons h1 h2 =>
      cases h1 with
      | leaf h1 =>
        obtain ⟨q1, q2, q3⟩ := ors_leaves ts es _ _ e1 h2
        subst q1
        exact ⟨rfl, .cons h1 q2, by rw [q3]; rfl⟩
  | .nod _ _ :: _, _, _, _, e, _ => by unfold leaves at e; cases e
theorem ors_of_leaves : ∀ (ds : List D) (vs : List V), DqAll K F vs ds → ORs K F H vs (ds.map .leaf) []
  | [], _, h => by cases h; exact .nil
  | d :: ds, _, h => by cases h with | cons h1 h2 => exact .cons (l := []) (m := []) (.leaf h1) (ors_of_leaves ds _ h2)
theorem dpAll_length : ∀ {vs : List V} {ds : List D}, DqAll K F vs ds → vs.length = ds.length
  | _, _, .nil => rfl
  | _, _, .cons _ h => by simp [dpAll_length h]
theorem dpAll_get : ∀ {vs : List V} {ds : List D} {k : Nat} {d : D}, DqAll K F vs ds → ds[k]? = some d → ∃ v, vs[k]? = some v ∧ Dq K F v d
  | _, _, _, _, .nil, e => by simp at e
  | _, _, 0, _, .cons h _, e => by simp at e; subst e; exact ⟨_, rfl, h⟩
  | _, _, k + 1, _, .cons _ h, e => by
    obtain ⟨v, e1, e2⟩ := dpAll_get (k := k) h (by simpa using e)
    exact ⟨v, by simpa using e1, e2⟩
theorem dpAll_append : ∀ {vs ws : List V} {ds es : List D}, DqAll K F vs ds → DqAll K F ws es → DqAll K F (vs ++ ws) (ds ++ es)
  | _, _, _, _, .nil, h => h
  | _, _, _, _, .cons a b, h => .cons a (dpAll_append b h)
theorem dpAll_take : ∀ {vs : List V} {ds : List D} (n : Nat), DqAll K F vs ds → DqAll K F (vs.take n) (ds.take n)
  | _, _, 0, _ => by simp; exact .nil
  | _, _, n + 1, .nil => .nil
  | _, _, n + 1, .cons a b => .cons a (dpAll_take n b)
theorem dpAll_drop : ∀ {vs : List V} {ds : List D} (n : Nat), DqAll K F vs ds → DqAll K F (vs.drop n) (ds.drop n)
  | _, _, 0, h => h
  | _, _, n + 1, .nil => .nil
  | _, _, n + 1, .cons a b => dpAll_drop n b
theorem ors_length : ∀ {ts : List OT} {vs : List V} {l : List Addr}, ORs K F H vs ts l → vs.length = ts.length
  | _, _, _, .nil => rfl
  | _, _, _, .cons _ h => by simp [ors_length h]
theorem ors_get : ∀ {ts : List OT} {vs : List V} {l : List Addr} {k : Nat} {t : OT}, ORs K F H vs ts l → ts[k]? = some t → ∃ v m, vs[k]? = some v ∧ OR K F H v t m ∧ ∀ a ∈ m, a ∈ l
  | _, _, _, _, _, .nil, e => by simp at e
  | _, _, _, 0, _, .cons h _, e => by simp at e; subst e; exact ⟨_, _, rfl, h, fun a ha => List.mem_append_left _ ha⟩
  | _, _, _, k + 1, _, .cons _ h, e => by
    obtain ⟨v, m, e1, e2, e3⟩ := ors_get (k := k) h (by simpa using e)
    exact ⟨v, m, by simpa using e1, e2, fun a ha => List.mem_append_right _ (e3 a ha)⟩
theorem ors_append : ∀ {ts us : List OT} {vs ws : List V} {l m : List Addr}, ORs K F H vs ts l → ORs K F H ws us m → ORs K F H (vs ++ ws) (ts ++ us) (l ++ m)
  | _, _, _, _, _, _, .nil, h => h
  | _, _, _, _, _, _, .cons a b, h => by rw [List.append_assoc]; exact .cons a (ors_append b h)
/-- items dropped: a smaller foot -/
theorem ors_dropLast : ∀ {ts : List OT} {vs : List V} {l : List Addr}, ORs K F H vs ts l → ∃ m, ORs K F H vs.dropLast ts.dropLast m ∧ m.Sublist l
  | _, _, _, .nil => ⟨[], .nil, .slnil⟩
  | _, _, _, .cons (vs := []) (ts := []) h .nil => ⟨[], .nil, List.nil_sublist _⟩
  | _, _, _, .cons (vs := v :: vs) (ts := t :: ts) h r => by
    obtain ⟨m, q1, q2⟩ := ors_dropLast r
    exact ⟨_, .cons h q1, List.Sublist.append (List.Sublist.refl _) q2⟩
theorem ors_eraseIdx : ∀ {ts : List OT} {vs : List V} {l : List Addr} (k : Nat), ORs K F H vs ts l → ∃ m, ORs K F H (vs.eraseIdx k) (ts.eraseIdx k) m ∧ m.Sublist l
  | _, _, _, _, .nil => ⟨[], by simpa using .nil, .slnil⟩
  | _, _, _, 0, .cons h r => ⟨_, r, List.sublist_append_right _ _⟩
  | _, _, _, k + 1, .cons h r => by
    obtain ⟨m, q1, q2⟩ := ors_eraseIdx k r
    exact ⟨_, .cons h q1, List.Sublist.append (List.Sublist.refl _) q2⟩
end

/-! ### the frame -/
structure ER (K : PySem.W.Frag) (F H : Hp) (σ : L2.St) (env : Env) (fo : Nat → List Addr) : Prop where
  len : σ.length = env.length
  rep : ∀ i t, env[i]? = some (some t) → ∃ v, σ[i]? = some (some v) ∧ OR K F H v t (fo i)
  non : ∀ i, (∀ t, env[i]? ≠ some (some t)) → fo i = []
  nd : ∀ i, (fo i).Nodup
  dj : ∀ i j a, i ≠ j → a ∈ fo i → a ∉ fo j
def ofF (fo : Nat → List Addr) : Addr → Prop := fun a => ∃ i, a ∈ fo i
def foSet (fo : Nat → List Addr) (i : Nat) (l : List Addr) : Nat → List Addr := fun j => if j = i then l else fo j
section
variable {K : PySem.W.Frag} {F H F' H' : Hp} {L L' : Addr → Prop} {σ : L2.St} {env : Env} {fo : Nat → List Addr}
theorem ER.there (e : ER K F H σ env fo) {a : Addr} (h : ofF fo a) : (∃ o, H a = some o) ∧ F a = none := by
  obtain ⟨i, hi⟩ := h
  by_cases c : ∃ t, env[i]? = some (some t)
  · obtain ⟨t, ht⟩ := c
    obtain ⟨v, _, r⟩ := e.rep i t ht
    exact or_foot t v _ r a hi
  · rw [e.non i fun t q => c ⟨t, q⟩] at hi
    cases hi
theorem ER.step (e : ER K F H σ env fo) (s : Step F H L F' H' L') (h : ∀ a, ofF fo a → ¬ L a) : ER K F' H' σ env fo :=
  ⟨e.len, fun i t q => by
    obtain ⟨v, q1, q2⟩ := e.rep i t q
    exact ⟨v, q1, or_keep s.fs t v _ q2 fun a o ha ho => s.keep a o ho (h a ⟨i, ha⟩)⟩, e.non, e.nd, e.dj⟩
/-- all owned lists kept -/
theorem ER.kept (e : ER K F H σ env fo) (fs : Same F F') (k : ∀ a o, ofF fo a → H a = some o → H' a = some o ∧ F' a = F a) : ER K F' H' σ env fo :=
  ⟨e.len, fun i t q => by
    obtain ⟨v, q1, q2⟩ := e.rep i t q
    exact ⟨v, q1, or_keep fs t v _ q2 fun a o ha ho => k a o ⟨i, ha⟩ ho⟩, e.non, e.nd, e.dj⟩
/-- a slot stored -/
theorem ER.set {i : Nat} {v : V} {t : OT} {l : List Addr} (e : ER K F H σ env fo) (hi : i < env.length) (r : OR K F H v t l) (nd : l.Nodup) (dj : ∀ a ∈ l, ∀ j, j ≠ i → a ∉ fo j) :
    ER K F H (σ.set i (some v)) (env.set i (some t)) (foSet fo i l) where
  len := by simpa using e.len
  rep := fun j u q => by
    by_cases c : j = i
    · subst c
      rw [List.getElem?_set_self hi] at q
      cases q
      refine ⟨v, List.getElem?_set_self (by rw [e.len]; exact hi), ?_⟩
      unfold foSet
      rw [if_pos rfl]
      exact r
    · rw [List.getElem?_set_ne (Ne.symm c)] at q
      obtain ⟨w, q1, q2⟩ := e.rep j u q
      refine ⟨w, by rw [List.getElem?_set_ne (Ne.symm c)]; exact q1, ?_⟩
      unfold foSet
      rw [if_neg c]
      exact q2
  non := fun j q => by
    by_cases c : j = i
    · subst c
      exact absurd (List.getElem?_set_self hi) (q t)
    · unfold foSet
      rw [if_neg c]
      refine e.non j fun u z => q u ?_
      rw [List.getElem?_set_ne (Ne.symm c)]
      exact z
  nd := fun j => by
    unfold foSet
    split
    · exact nd
    · exact e.nd j
  dj := fun j k a hjk ha hb => by
    unfold foSet at ha hb
    split at ha
    · rename_i c
      rw [if_neg (fun z => hjk (c.trans z.symm))] at hb
      exact dj a ha k (fun z => hjk (c.trans z.symm)) hb
    · rename_i c
      split at hb
      · exact dj a hb j c ha
      · exact e.dj j k a hjk ha hb
/-- the same value in the same slot under another tree -/
theorem ER.re {i : Nat} {v : V} {t : OT} {l : List Addr} (e : ER K F H σ env fo) (hi : i < env.length) (hv : σ[i]? = some (some v)) (r : OR K F H v t l) (nd : l.Nodup) (dj : ∀ a ∈ l, ∀ j, j ≠ i → a ∉ fo j) :
    ER K F H σ (env.set i (some t)) (foSet fo i l) := by
  have q := e.set hi r nd dj
  have z : σ.set i (some v) = σ := by
    obtain ⟨h1, h2⟩ := List.getElem?_eq_some_iff.mp hv
    rw [← h2]; exact List.set_getElem_self h1
  rwa [z] at q
/-- a slot forgotten -/
theorem ER.drop (e : ER K F H σ env fo) (i : Nat) {w : Option V} (hw : w = none ∨ σ[i]? = some w) : ER K F H (σ.set i w) (env.set i none) (foSet fo i []) where
  len := by simpa using e.len
  rep := fun j u q => by
    by_cases c : j = i
    · subst c
      by_cases hi : j < env.length
      · rw [List.getElem?_set_self hi] at q; cases q
      · rw [List.getElem?_eq_none (by simpa using hi)] at q; cases q
    · rw [List.getElem?_set_ne (Ne.symm c)] at q
      obtain ⟨w, q1, q2⟩ := e.rep j u q
      refine ⟨w, by rw [List.getElem?_set_ne (Ne.symm c)]; exact q1, ?_⟩
      unfold foSet
      rw [if_neg c]
      exact q2
  non := fun j q => by
    unfold foSet
    split
    · rfl
    · rename_i c
      refine e.non j fun u z => q u ?_
      rw [List.getElem?_set_ne (Ne.symm c)]
      exact z
  nd := fun j => by
    unfold foSet
    split
    · exact List.nodup_nil
    · exact e.nd j
  dj := fun j k a hjk ha hb => by
    unfold foSet at ha hb
    split at ha
    · cases ha
    · split at hb
      · cases hb
      · exact e.dj j k a hjk ha hb
theorem ofF_set {i : Nat} {l : List Addr} {a : Addr} (h : ofF (foSet fo i l) a) : a ∈ l ∨ ofF fo a := by
  obtain ⟨j, hj⟩ := h
  unfold foSet at hj
  split at hj
  · exact .inl hj
  · exact .inr ⟨j, hj⟩
end

/-! ### paths -/
def walk (H : Hp) : V → List Nat → V → Prop
  | v0, [], v => v0 = v
  | v0, k :: p, v => ∃ a g vs w, v0 = .ref a ∧ H a = some (hoOf g vs) ∧ gOk g vs ∧ vs[k]? = some w ∧ walk H w p v
def PathV (H : Hp) (σ : L2.St) (i : Nat) (p : List Nat) (v : V) : Prop := ∃ v0, σ[i]? = some (some v0) ∧ walk H v0 p v
inductive RR (K : PySem.W.Frag) (F H : Hp) (σ : L2.St) : V → R → List Addr → Prop
  | own {v : V} {t : OT} {l : List Addr} : OR K F H v t l → RR K F H σ v (.own t) l
  | al {v : V} {i : Nat} {p : List Nat} : PathV H σ i p v → RR K F H σ v (.al i p) []
inductive RRs (K : PySem.W.Frag) (F H : Hp) (σ : L2.St) : List V → List R → List Addr → Prop
  | nil : RRs K F H σ [] [] []
  | cons {v : V} {r : R} {vs : List V} {rs : List R} {l m : List Addr} : RR K F H σ v r l → RRs K F H σ vs rs m → RRs K F H σ (v :: vs) (r :: rs) (l ++ m)
section
variable {K : PySem.W.Frag} {F H F' H' : Hp} {L L' : Addr → Prop} {σ : L2.St} {env : Env} {fo : Nat → List Addr}
theorem walk_mono (k : Same H H') : ∀ (p : List Nat) (v0 v : V), walk H v0 p v → walk H' v0 p v
  | [], _, _, h => h
  | _ :: p, _, _, ⟨a, g, vs, w, e, h1, h0, h2, h3⟩ => ⟨a, g, vs, w, e, k _ _ h1, h0, h2, walk_mono k p w _ h3⟩
theorem walk_snoc : ∀ (p : List Nat) (v0 v w : V) (a : Addr) (g : Option (List Key)) (vs : List V) (k : Nat), walk H v0 p v → v = .ref a → H a = some (hoOf g vs) → gOk g vs → vs[k]? = some w → walk H v0 (p ++ [k]) w
  | [], v0, v, w, a, g, vs, k, h, e, h1, h0, h2 => ⟨a, g, vs, w, by rw [show v0 = v from h]; exact e, h1, h0, h2, rfl⟩
  | _ :: p, _, v, w, a, g, vs, k, ⟨b, g', us, u, e0, g1, g0, g2, g3⟩, e, h1, h0, h2 => ⟨b, g', us, u, e0, g1, g0, g2, walk_snoc p u v w a g vs k g3 e h1 h0 h2⟩
/-- the tree at a path -/
theorem at_rep : ∀ (p : List Nat) (t0 t : OT) (v0 v : V) (l : List Addr), OR K F H v0 t0 l → walk H v0 p v → t0.at? p = some t → ∃ m, OR K F H v t m ∧ ∀ a ∈ m, a ∈ l
  | [], t0, t, v0, v, l, h, w, e => by
    have e' : t0 = t := Option.some.inj (by cases t0 <;> exact e)
    subst e'
    rw [← show v0 = v from w]
    exact ⟨l, h, fun _ q => q⟩
  | k :: p, .leaf _, t, v0, v, l, h, w, e => by cases e
  | k :: p, .nod g ts, t, v0, v, l, h, ⟨a, g', vs, u, e0, g1, g0, g2, g3⟩, e => by
    cases h with
    | @nod b _ us _ m h1 h0 h2 h3 =>
      cases e0
      rw [h1] at g1
      obtain ⟨rfl, rfl⟩ := hoOf_inj h0 g0 (Option.some.inj g1)
      unfold OT.at? at e
      cases hk : ts[k]? with
      | none => rw [hk] at e; cases e
      | some t1 =>
        rw [hk] at e
        obtain ⟨v1, m1, q1, q2, q3⟩ := ors_get h3 hk
        rw [q1] at g2; cases g2
        obtain ⟨m2, r1, r2⟩ := at_rep p t1 t _ v m1 q2 g3 e
        exact ⟨m2, r1, fun x hx => List.mem_cons_of_mem _ (q3 x (r2 x hx))⟩
theorem look_rep {i : Nat} {p : List Nat} {t : OT} {v : V} (e : ER K F H σ env fo) (w : PathV H σ i p v) (h : env.look i p = some t) : ∃ m, OR K F H v t m ∧ ∀ a ∈ m, a ∈ fo i := by
  unfold Env.look at h
  obtain ⟨v0, hv, hw⟩ := w
  split at h
  · rename_i t0 q
    obtain ⟨v1, g1, g2⟩ := e.rep i t0 q
    rw [hv] at g1; cases g1
    exact at_rep p t0 t v0 v _ g2 hw h
  · cases h
theorem tree_rep {v : V} {r : R} {l : List Addr} {t : OT} (e : ER K F H σ env fo) (h : RR K F H σ v r l) (ht : r.tree env = some t) : ∃ m, OR K F H v t m := by
  cases h with
  | own h => cases ht; exact ⟨_, h⟩
  | al h => obtain ⟨m, q, _⟩ := look_rep e h ht; exact ⟨m, q⟩
theorem dat_rep {v : V} {r : R} {l : List Addr} {d : D} (fh : Same F H) (e : ER K F H σ env fo) (h : RR K F H σ v r l) (hd : r.dat env = some d) : Dq K H v d := by
  obtain ⟨t, h1, h2⟩ := Option.map_eq_some_iff.mp hd
  obtain ⟨m, q⟩ := tree_rep e h h1
  rw [← h2]
  exact or_datH fh q
theorem dats_rep (fh : Same F H) (e : ER K F H σ env fo) : ∀ {vs : List V} {rs : List R} {l : List Addr} {ds : List D}, RRs K F H σ vs rs l → dats env rs = some ds → DqAll K H vs ds
  | _, _, _, _, .nil, h => by unfold dats at h; cases h; exact .nil
  | _, r :: rs, _, ds, .cons h1 h2, h => by
    unfold dats at h
    cases e1 : r.dat env with
    | none => rw [e1] at h; cases h
    | some d =>
      rw [e1] at h
      obtain ⟨es, q1, q2⟩ := Option.map_eq_some_iff.mp h
      subst q2
      exact .cons (dat_rep fh e h1 e1) (dats_rep fh e h2 q1)
/-- data whose items are shared: either shared itself, or an owned list of shared items -/
def Sh (K : PySem.W.Frag) (F H : Hp) (v : V) (d : D) : Prop := Dq K F v d ∨ ∃ a vs ds, v = .ref a ∧ d = .list ds ∧ H a = some (.lst vs) ∧ DqAll K F vs ds
theorem sh_rep {v : V} {r : R} {l : List Addr} {d : D} (e : ER K F H σ env fo) (h : RR K F H σ v r l) (hd : r.sh env = some d) : Sh K F H v d := by
  obtain ⟨t, h1, h2⟩ := Option.bind_eq_some_iff.mp hd
  obtain ⟨m, q⟩ := tree_rep e h h1
  cases q with
  | leaf q => cases h2; exact .inl q
  | @nod a g vs ts l' g1 g0 g2 g3 =>
    cases g with
    | some ks => cases h2
    | none =>
      obtain ⟨ds, e1, e2⟩ := Option.map_eq_some_iff.mp h2
      obtain ⟨_, q2, _⟩ := ors_leaves ts ds vs l' e1 g3
      exact .inr ⟨a, vs, ds, rfl, e2.symm, g1, q2⟩
theorem Sh.list {v : V} {ds : List D} (fh : Same F H) (h : Sh K F H v (.list ds)) : ∃ a vs, v = .ref a ∧ SqX K H a vs ∧ DqAll K F vs ds := by
  rcases h with h | ⟨a, vs, es, e1, e2, h1, h2⟩
  · cases h with | lst h1 h2 => exact ⟨_, _, rfl, sqX_mono h1 fh, h2⟩
  · cases e2
    exact ⟨a, vs, e1, SqX.of h1, h2⟩
theorem Sh.tup {v : V} {ds : List D} (fh : Same F H) (h : Sh K F H v (.tuple ds)) : ∃ a vs, v = .ref a ∧ SqT K H a vs ∧ SqT K F a vs ∧ DqAll K F vs ds := by
  rcases h with h | ⟨a, vs, es, e1, e2, h1, h2⟩
  · cases h with | tup h1 h2 => exact ⟨_, _, rfl, sqT_mono h1 fh, h1, h2⟩
  · cases e2

/-- objects off the foot changed: the tree stays -/
theorem or_upd {a : Addr} {o : HO} {t : OT} {v : V} {l : List Addr} (h : OR K F H v t l) (ha : a ∉ l) : OR K F (upd H a o) v t l :=
  or_keep (Same.refl F) t v l h fun b u hb e => ⟨by rw [upd_ne (fun z : b = a => ha (z ▸ hb))]; exact e, rfl⟩
theorem ors_upd {a : Addr} {o : HO} {ts : List OT} {vs : List V} {l : List Addr} (h : ORs K F H vs ts l) (ha : a ∉ l) : ORs K F (upd H a o) vs ts l :=
  ors_keep (Same.refl F) ts vs l h fun b u hb e => ⟨by rw [upd_ne (fun z : b = a => ha (z ▸ hb))]; exact e, rfl⟩
/-- one item's tree under another form -/
theorem ors_swap {H' : Hp} {u u' : OT} {w : V} {lx : List Addr} : ∀ (k : Nat) (ts : List OT) (vs : List V) (l mu mu' : List Addr), ORs K F H vs ts l → l.Nodup → ts[k]? = some u → vs[k]? = some w →
    (∀ (v : V) (m : List Addr), v = w → OR K F H v u m → m.Nodup → (∀ a ∈ m, a ∈ l) → ∃ m', OR K F H' v u' m' ∧ (∀ a ∈ m', a ∈ m ∨ a ∈ lx) ∧ m'.Nodup ∧ ∀ b, b ∈ l → b ∉ m → ∀ o, H b = some o → H' b = some o) →
    (∀ a ∈ l, a ∉ lx) → ∃ l', ORs K F H' vs (ts.set k u') l' ∧ (∀ a ∈ l', a ∈ l ∨ a ∈ lx) ∧ l'.Nodup
  | 0, t :: ts, v :: vs, _, mu, mu', .cons (l := l1) (m := l2) h1 h2, nd, e1, e2, f, dx => by
    have eu : t = u := Option.some.inj e1
    have ew : v = w := Option.some.inj e2
    rw [eu] at h1
    obtain ⟨nd1, nd2, nd3⟩ := List.nodup_append.mp nd
    obtain ⟨m', r1, r2, r3, r4⟩ := f v l1 ew h1 nd1 fun a ha => List.mem_append_left _ ha
    refine ⟨m' ++ l2, .cons r1 (ors_keep (Same.refl F) ts vs l2 h2 fun a o ha ho => ⟨r4 a (List.mem_append_right _ ha) (fun z => nd3 a z a ha rfl) o ho, rfl⟩), fun a ha => ?_, List.nodup_append.mpr ⟨r3, nd2, fun a ha b hb e => ?_⟩⟩
    · rcases List.mem_append.mp ha with ha | ha
      · exact (r2 a ha).imp (List.mem_append_left _) id
      · exact .inl (List.mem_append_right _ ha)
    · subst e
      rcases r2 a ha with z | z
      · exact nd3 a z a hb rfl
      · exact dx a (List.mem_append_right _ hb) z
  | k + 1, t :: ts, v :: vs, _, mu, mu', .cons (l := l1) (m := l2) h1 h2, nd, e1, e2, f, dx => by
    obtain ⟨nd1, nd2, nd3⟩ := List.nodup_append.mp nd
    have e1' : ts[k]? = some u := by simpa using e1
    have e2' : vs[k]? = some w := by simpa using e2
    -- the head's own lists stay: they are off the changed item's foot
    obtain ⟨v', mm, g1, g2, g3⟩ := ors_get h2 e1'
    rw [e2'] at g1; cases g1
    have ndm : ∃ mm, OR K F H w u mm ∧ mm.Nodup ∧ (∀ a ∈ mm, a ∈ l2) := by
      have aux : ∀ (k : Nat) (ts : List OT) (vs : List V) (l : List Addr), ORs K F H vs ts l → l.Nodup → ts[k]? = some u → vs[k]? = some w → ∃ mm, OR K F H w u mm ∧ mm.Nodup ∧ ∀ a ∈ mm, a ∈ l := by
        intro k
        induction k with
        | zero =>
          intro ts vs l h nd e1 e2
          cases h with
          | nil => cases e1
          | cons a b => cases e1; cases e2; exact ⟨_, a, (List.nodup_append.mp nd).1, fun x hx => List.mem_append_left _ hx⟩
        | succ k ih =>
          intro ts vs l h nd e1 e2
          cases h with
          | nil => cases e1
          | cons a b =>
            obtain ⟨mm, q1, q2, q3⟩ := ih _ _ _ b (List.nodup_append.mp nd).2.1 (by simpa using e1) (by simpa using e2)
            exact ⟨mm, q1, q2, fun x hx => List.mem_append_right _ (q3 x hx)⟩
      exact aux k ts vs l2 h2 nd2 e1' e2'
    obtain ⟨m0, z1, z2, z3⟩ := ndm
    obtain ⟨m0', _, _, _, r4⟩ := f w m0 rfl z1 z2 fun a ha => List.mem_append_right _ (z3 a ha)
    obtain ⟨l', q1, q2, q3⟩ := ors_swap k ts vs l2 mu mu' h2 nd2 e1' e2' (fun v m ev hv hm hs => by
      obtain ⟨m', r1, r2, r3, r4⟩ := f v m ev hv hm fun a ha => List.mem_append_right _ (hs a ha)
      exact ⟨m', r1, r2, r3, fun b hb => r4 b (List.mem_append_right _ hb)⟩) fun a ha => dx a (List.mem_append_right _ ha)
    refine ⟨l1 ++ l', .cons (or_keep (Same.refl F) t v l1 h1 fun a o ha ho => ⟨r4 a (List.mem_append_left _ ha) (fun z => nd3 a ha a (z3 a z) rfl) o ho, rfl⟩) q1, fun a ha => ?_, List.nodup_append.mpr ⟨nd1, q3, fun a ha b hb e => ?_⟩⟩
    · rcases List.mem_append.mp ha with ha | ha
      · exact .inl (List.mem_append_left _ ha)
      · exact (q2 a ha).imp (List.mem_append_right _) id
    · subst e
      rcases q2 a hb with z | z
      · exact nd3 a ha a z rfl
      · exact dx a (List.mem_append_left _ ha) z
  | _, [], _, _, _, _, h, _, e1, _, _, _ => by simp at e1

/-- the list at a path rewritten: its address is a, its new items vs' under the trees ts' -/
theorem put_rep {a : Addr} {gg gg' : Option (List Key)} {ts ts' : List OT} {vs' : List V} {lx : List Addr} {M : Addr → Prop} : ∀ (p : List Nat) (t0 t0' : OT) (v0 : V) (l : List Addr), OR K F H v0 t0 l → l.Nodup → walk H v0 p (.ref a) → t0.at? p = some (.nod gg ts) → t0.put p (.nod gg' ts') = some t0' → gOk gg' vs' →
    (∀ (vs : List V) (m : List Addr), H a = some (hoOf gg vs) → gOk gg vs → ORs K F H vs ts m → m.Nodup → a ∉ m → (∀ b ∈ m, M b) → ∃ m', ORs K F (upd H a (hoOf gg' vs')) vs' ts' m' ∧ (∀ b ∈ m', b ∈ m ∨ b ∈ lx) ∧ m'.Nodup) → (∀ b ∈ l, b ∉ lx) → (∀ b ∈ l, M b) →
    a ∈ l ∧ ∃ l', OR K F (upd H a (hoOf gg' vs')) v0 t0' l' ∧ (∀ b ∈ l', b ∈ l ∨ b ∈ lx) ∧ l'.Nodup
  | [], t0, t0', v0, l, h, nd, w, e, ep, hgv, f, dx, hM => by
    have e' : t0 = .nod gg ts := Option.some.inj (by cases t0 <;> exact e)
    subst e'
    have w' : v0 = .ref a := w
    subst w'
    have ep' : OT.nod gg' ts' = t0' := Option.some.inj ep
    subst ep'
    cases h with
    | nod h1 h0 h2 h3 =>
      obtain ⟨nd1, nd2⟩ := List.nodup_cons.mp nd
      obtain ⟨m', q1, q2, q3⟩ := f _ _ h1 h0 h3 nd2 nd1 fun b hb => hM b (List.mem_cons_of_mem _ hb)
      refine ⟨List.mem_cons_self, a :: m', .nod upd_same hgv h2 q1, fun b hb => ?_, List.nodup_cons.mpr ⟨fun z => (q2 a z).elim nd1 (dx a List.mem_cons_self), q3⟩⟩
      rcases List.mem_cons.mp hb with e | hb
      · exact .inl (e ▸ List.mem_cons_self)
      · exact (q2 b hb).imp (List.mem_cons_of_mem _) id
  | k :: p, .leaf _, t0', v0, l, h, nd, w, e, ep, hgv, f, dx, hM => by cases e
  | k :: p, .nod g us, t0', v0, l, h, nd, ⟨b, g', ws, u, e0, g1, g0, g2, g3⟩, e, ep, hgv, f, dx, hM => by
    cases h with
    | @nod b' _ ws' _ m h1 h0 h2 h3 =>
      cases e0
      rw [h1] at g1
      obtain ⟨rfl, rfl⟩ := hoOf_inj h0 g0 (Option.some.inj g1)
      unfold OT.at? at e
      unfold OT.put at ep
      cases hk : us[k]? with
      | none => rw [hk] at e; cases e
      | some t1 =>
        rw [hk] at e ep
        simp only at ep
        cases hp : t1.put p (.nod gg' ts') with
        | none => rw [hp] at ep; cases ep
        | some t1' =>
          rw [hp] at ep
          cases ep
          obtain ⟨nd1, nd2⟩ := List.nodup_cons.mp nd
          have ham : a ∈ m := by
            obtain ⟨v1, m1, q1, q2, q3⟩ := ors_get h3 hk
            rw [q1] at g2; cases g2
            obtain ⟨m2, r1, r2⟩ := at_rep p t1 _ _ _ m1 q2 g3 e
            cases r1 with | nod _ _ _ _ => exact q3 _ (r2 _ List.mem_cons_self)
          obtain ⟨l', q1, q2, q3⟩ := ors_swap (H' := upd H a (hoOf gg' vs')) (u' := t1') (lx := lx) k us _ m [] [] h3 nd2 hk g2 (fun v mm ev hv hm hs => by
            subst ev
            obtain ⟨z0, l1, z1, z2, z3⟩ := put_rep p t1 t1' _ mm hv hm g3 e hp hgv f (fun c hc => dx c (List.mem_cons_of_mem _ (hs c hc))) fun c hc => hM c (List.mem_cons_of_mem _ (hs c hc))
            exact ⟨l1, z1, z2, z3, fun c hc hn o ho => by rw [upd_ne (fun z : c = a => hn (z ▸ z0))]; exact ho⟩) fun c hc => dx c (List.mem_cons_of_mem _ hc)
          have hba : b ≠ a := fun z => nd1 (z ▸ ham)
          refine ⟨List.mem_cons_of_mem _ ham, b :: l', .nod (by rw [upd_ne hba]; exact h1) h0 h2 q1, fun c hc => ?_, List.nodup_cons.mpr ⟨fun z => (q2 b z).elim nd1 (dx b List.mem_cons_self), q3⟩⟩
          rcases List.mem_cons.mp hc with e | hc
          · exact .inl (e ▸ List.mem_cons_self)
          · exact (q2 c hc).imp (List.mem_cons_of_mem _) id

/-- the list at a variable's path rewritten -/
theorem put_env {a : Addr} {i : Nat} {p : List Nat} {gg gg' : Option (List Key)} {ts ts' : List OT} {vs' : List V} {lx : List Addr} {env' : Env} (e : ER K F H σ env fo) (w : PathV H σ i p (.ref a)) (hl : env.look i p = some (.nod gg ts)) (hp : env.put i p (.nod gg' ts') = some env') (hgv : gOk gg' vs')
    (hx : ∀ b ∈ lx, ¬ ofF fo b)
    (f : ∀ (vs : List V) (m : List Addr), H a = some (hoOf gg vs) → gOk gg vs → ORs K F H vs ts m → m.Nodup → a ∉ m → (∀ b ∈ m, ofF fo b) → ∃ m', ORs K F (upd H a (hoOf gg' vs')) vs' ts' m' ∧ (∀ b ∈ m', b ∈ m ∨ b ∈ lx) ∧ m'.Nodup) :
    ∃ fo', ER K F (upd H a (hoOf gg' vs')) σ env' fo' ∧ (∀ b, ofF fo' b → ofF fo b ∨ b ∈ lx) ∧ ofF fo a := by
  unfold Env.look at hl
  unfold Env.put at hp
  obtain ⟨v0, hv, hw⟩ := w
  split at hl
  · rename_i t0 q
    rw [q] at hp
    simp only at hp
    cases h1 : t0.put p (.nod gg' ts') with
    | none => rw [h1] at hp; cases hp
    | some t1 =>
      rw [h1] at hp
      cases hp
      obtain ⟨v1, g1, g2⟩ := e.rep i t0 q
      rw [hv] at g1; cases g1
      obtain ⟨z0, l', z1, z2, z3⟩ := put_rep (M := ofF fo) p t0 t1 v0 (fo i) g2 (e.nd i) hw hl h1 hgv f (fun b hb hbx => hx b hbx ⟨i, hb⟩) fun b hb => ⟨i, hb⟩
      have hi : i < env.length := (List.getElem?_eq_some_iff.mp q).1
      have e1 : ER K F (upd H a (hoOf gg' vs')) σ (env.set i none) (foSet fo i []) := by
        have q1 : ER K F H σ (env.set i none) (foSet fo i []) := by
          have q2 := e.drop i (w := some v0) (.inr hv)
          have z : σ.set i (some v0) = σ := by
            obtain ⟨h1, h2⟩ := List.getElem?_eq_some_iff.mp hv
            rw [← h2]; exact List.set_getElem_self h1
          rwa [z] at q2
        refine q1.kept (Same.refl F) fun b o hb ho => ⟨?_, rfl⟩
        have hne : b ≠ a := fun z => by
          subst z
          obtain ⟨j, hj⟩ := hb
          unfold foSet at hj
          split at hj
          · cases hj
          · rename_i c
            exact e.dj j i b c hj z0
        rw [upd_ne hne]
        exact ho
      have e2 := e1.re (i := i) (by simpa using hi) hv z1 z3 (fun b hb j hj hbj => by
        unfold foSet at hbj
        rw [if_neg hj] at hbj
        rcases z2 b hb with z | z
        · exact e.dj j i b hj hbj z
        · exact hx b z ⟨j, hbj⟩)
      rw [List.set_set] at e2
      refine ⟨_, e2, fun b hb => ?_, ⟨i, z0⟩⟩
      rcases ofF_set hb with z | z
      · exact (z2 b z).imp (fun y => ⟨i, y⟩) id
      · rcases ofF_set z with y | y
        · cases y
        · exact .inl y
  · cases hl

/-- a variable's list is shared from here on -/
def frz (F H : Hp) (l : List Addr) : Hp := fun b => if b ∈ l then H b else F b
theorem frz_fs {l : List Addr} (fh : Same F H) : Same F (frz F H l) := fun b o e => by
  unfold frz
  split
  · exact fh b o e
  · exact e
theorem frz_fh {l : List Addr} (fh : Same F H) : Same (frz F H l) H := fun b o e => by
  unfold frz at e
  split at e
  · exact e
  · exact fh b o e
theorem frz_out {l : List Addr} {b : Addr} (h : b ∉ l) : frz F H l b = F b := by unfold frz; rw [if_neg h]
theorem frz_in {l : List Addr} {b : Addr} (h : b ∈ l) : frz F H l b = H b := by unfold frz; rw [if_pos h]
theorem frz_dp {t : OT} {v : V} {l : List Addr} (fh : Same F H) (h : OR K F H v t l) : Dq K (frz F H l) v t.dat :=
  or_dat (frz_fs fh) t v l h fun a o ha ho => by rw [frz_in ha]; exact ho
theorem frz_step {l : List Addr} {M : Addr → Prop} (fh : Same F H) (hM : ∀ a ∈ l, M a) {M' : Addr → Prop} (h' : ∀ a, M' a → M a) : Step F H M (frz F H l) H M' :=
  ⟨frz_fs fh, frz_fh fh, fun b o e n => ⟨e, frz_out fun z => n (hM b z)⟩, fun _ e => e, fun a q => .inl (h' a q)⟩

theorem RR.step {v : V} {r : R} {l : List Addr} (h : RR K F H σ v r l) (s : Step F H L F' H' L') (hl : ∀ a ∈ l, ¬ L a) (hd : r.deep = true → Same H H') : RR K F' H' σ v r l := by
  cases h with
  | own h => exact .own (or_keep s.fs _ _ _ h fun a o ha ho => s.keep a o ho (hl a ha))
  | @al i p h =>
    refine .al ?_
    obtain ⟨v0, h1, h2⟩ := h
    refine ⟨v0, h1, ?_⟩
    cases p with
    | nil => exact h2
    | cons k p => exact walk_mono (hd rfl) _ _ _ h2
theorem RRs.step : ∀ {vs : List V} {rs : List R} {l : List Addr}, RRs K F H σ vs rs l → Step F H L F' H' L' → (∀ a ∈ l, ¬ L a) → (anyDeep rs = true → Same H H') → RRs K F' H' σ vs rs l
  | _, _, _, .nil, _, _, _ => .nil
  | _, _, _, .cons a b, s, hl, hd => .cons (a.step s (fun x hx => hl x (List.mem_append_left _ hx)) fun z => hd (by unfold anyDeep; rw [z]; rfl))
      (b.step s (fun x hx => hl x (List.mem_append_right _ hx)) fun z => hd (by unfold anyDeep; rw [z, Bool.or_true]))
theorem RRs.length : ∀ {vs : List V} {rs : List R} {l : List Addr}, RRs K F H σ vs rs l → vs.length = rs.length
  | _, _, _, .nil => rfl
  | _, _, _, .cons _ b => by simp [b.length]

theorem take_rep {v : V} {r : R} {l : List Addr} {t : OT} {env' : Env} (fh : Same F H) (e : ER K F H σ env fo) (h : RR K F H σ v r l) (nd : l.Nodup) (dj : ∀ a ∈ l, ¬ ofF fo a) (ht : r.take env = some (t, env')) :
    ∃ F' fo' l', Step F H (fun a => a ∈ l ∨ ofF fo a) F' H (fun a => a ∈ l' ∨ ofF fo' a) ∧ ER K F' H σ env' fo' ∧ OR K F' H v t l' ∧ l'.Nodup ∧ (∀ a ∈ l', ¬ ofF fo' a) ∧ (∀ a ∈ l', a ∈ l) ∧ (∀ a, ofF fo' a → ofF fo a) ∧ env'.length = env.length := by
  cases h with
  | own h =>
    cases ht
    exact ⟨F, fo, l, .refl fh fun _ q => q, e, h, nd, dj, fun _ q => q, fun _ q => q, rfl⟩
  | @al i p h =>
    cases p with
    | cons k p => cases ht
    | nil =>
      unfold R.take at ht
      simp only at ht
      cases hq : env[i]? with
      | none => rw [hq] at ht; cases ht
      | some o =>
        cases o with
        | none => rw [hq] at ht; cases ht
        | some t0 =>
          rw [hq] at ht
          cases ht
          obtain ⟨v0, hv, hw⟩ := h
          rw [show v0 = v from hw] at hv
          obtain ⟨v1, g1, g2⟩ := e.rep i t0 hq
          rw [hv] at g1; cases g1
          have hi : i < env.length := (List.getElem?_eq_some_iff.mp hq).1
          have dp := frz_dp fh g2
          have z : σ.set i (some v) = σ := by
            obtain ⟨h1, h2⟩ := List.getElem?_eq_some_iff.mp hv
            rw [← h2]; exact List.set_getElem_self h1
          have e1 := e.drop i (w := some v) (.inr hv)
          rw [z] at e1
          have e2 : ER K (frz F H (fo i)) H σ (env.set i none) (foSet fo i []) := e1.kept (frz_fs fh) fun a o ha ho => ⟨ho, frz_out fun hm => by
            obtain ⟨j, hj⟩ := ha
            unfold foSet at hj
            split at hj
            · cases hj
            · rename_i c
              exact e.dj j i a c hj hm⟩
          have e3 := e2.re (i := i) (by simpa using hi) hv (.leaf dp) List.nodup_nil (fun a ha => nomatch ha)
          rw [List.set_set] at e3
          have sub : ∀ a, ofF (foSet (foSet fo i []) i []) a → ofF fo a := fun a ha => by
            rcases ofF_set ha with q | q
            · cases q
            · rcases ofF_set q with q | q
              · cases q
              · exact q
          exact ⟨frz F H (fo i), _, [], frz_step fh (fun a ha => .inr ⟨i, ha⟩) (fun a q => q.elim (fun z => nomatch z) fun z => .inr (sub a z)), e3, .leaf dp, List.nodup_nil, (fun a ha => nomatch ha), (fun a ha => nomatch ha), sub, by simp⟩

theorem takes_rep : ∀ {vs : List V} {rs : List R} {l : List Addr} {ts : List OT} {F : Hp} {fo : Nat → List Addr} {env env' : Env}, Same F H → ER K F H σ env fo → RRs K F H σ vs rs l → l.Nodup → (∀ a ∈ l, ¬ ofF fo a) → takes rs env = some (ts, env') →
    ∃ F' fo' l', Step F H (fun a => a ∈ l ∨ ofF fo a) F' H (fun a => a ∈ l' ∨ ofF fo' a) ∧ ER K F' H σ env' fo' ∧ ORs K F' H vs ts l' ∧ l'.Nodup ∧ (∀ a ∈ l', ¬ ofF fo' a) ∧ (∀ a ∈ l', a ∈ l) ∧ (∀ a, ofF fo' a → ofF fo a) ∧ env'.length = env.length
  | _, _, _, _, F, fo, env, env', fh, e, .nil, nd, dj, ht => by
    cases ht
    exact ⟨F, fo, [], .refl fh fun _ q => q, e, .nil, nd, dj, fun _ q => q, fun _ q => q, rfl⟩
  | _, r :: rs, _, ts, F, fo, env, env', fh, e, .cons (l := l1) (m := l2) h1 h2, nd, dj, ht => by
    obtain ⟨nd1, nd2, nd3⟩ := List.nodup_append.mp nd
    unfold takes at ht
    cases hr : r.take env with
    | none => rw [hr] at ht; cases ht
    | some q =>
      obtain ⟨t, env1⟩ := q
      rw [hr] at ht
      simp only at ht
      cases hs : takes rs env1 with
      | none => rw [hs] at ht; cases ht
      | some q =>
        obtain ⟨ts', env2⟩ := q
        rw [hs] at ht
        cases ht
        obtain ⟨F1, fo1, k1, s1, e1, o1, n1, d1, sb1, sf1, len1⟩ := take_rep fh e h1 nd1 (fun a ha => dj a (List.mem_append_left _ ha)) hr
        have h2' := h2.step s1 (fun a ha => fun q => q.elim (fun z => nd3 a z a ha rfl) (dj a (List.mem_append_right _ ha))) fun _ => Same.refl H
        obtain ⟨F2, fo2, k2, s2, e2, o2, n2, d2, sb2, sf2, len2⟩ := takes_rep s1.fh e1 h2' nd2 (fun a ha z => dj a (List.mem_append_right _ ha) (sf1 a z)) hs
        have dk : ∀ a ∈ k1, a ∉ k2 := fun a ha hb => nd3 a (sb1 a ha) a (sb2 a hb) rfl
        have o1' : OR K F2 H _ t k1 := or_keep s2.fs _ _ _ o1 fun a o ha ho => s2.keep a o ho fun q => q.elim (fun z => nd3 a (sb1 a ha) a z rfl) (d1 a ha)
        refine ⟨F2, fo2, k1 ++ k2, ?_, e2, .cons o1' o2, List.nodup_append.mpr ⟨n1, n2, fun a ha b hb z => dk a ha (z ▸ hb)⟩, fun a ha z => ?_, fun a ha => ?_, fun a z => sf1 a (sf2 a z), len2.trans len1⟩
        · -- the two steps, each with what the other one holds
          have t1 : Step F H (fun a => a ∈ l1 ++ l2 ∨ ofF fo a) F1 H (fun a => a ∈ k1 ++ l2 ∨ ofF fo1 a) := ⟨s1.fs, s1.fh, fun b o ho n => s1.keep b o ho fun q => n (q.imp (List.mem_append_left _) id), s1.dom, fun a q => by
            rcases q with q | q
            · rcases List.mem_append.mp q with q | q
              · exact .inl (.inl (List.mem_append_left _ (sb1 a q)))
              · exact .inl (.inl (List.mem_append_right _ q))
            · exact .inl (.inr (sf1 a q))⟩
          have t2 : Step F1 H (fun a => a ∈ k1 ++ l2 ∨ ofF fo1 a) F2 H (fun a => a ∈ k1 ++ k2 ∨ ofF fo2 a) := ⟨s2.fs, s2.fh, fun b o ho n => s2.keep b o ho fun q => n (q.imp (List.mem_append_right _) id), s2.dom, fun a q => by
            rcases q with q | q
            · rcases List.mem_append.mp q with q | q
              · exact .inl (.inl (List.mem_append_left _ q))
              · exact .inl (.inl (List.mem_append_right _ (sb2 a q)))
            · exact .inl (.inr (sf2 a q))⟩
          exact t1.trans t2
        · rcases List.mem_append.mp ha with ha | ha
          · exact d1 a ha (sf2 a z)
          · exact d2 a ha z
        · rcases List.mem_append.mp ha with ha | ha
          · exact List.mem_append_left _ (sb1 a ha)
          · exact List.mem_append_right _ (sb2 a ha)
end
end PyI

/-! sum, max, min of a tuple of whole numbers. -/
namespace TmO
open PySem PyProof.Rows L2 PySem.Calls PySem.Spec PyProof.V
section
variable {prog : Program} {w : World} {A : Around} {E : Value → Shared → Prop} {s : Shared} {l : Addr} {xs : Array (Int × Tok)} {its : List Value} {ns : List Int} {Q : Value → Shared → Prop}
theorem fp2 (h : s.heap.IsTuple l (intItems xs)) : ∀ b ∈ [s.heap.objs.size, l], b < (s.heap.push { cls := .type "tuple_iterator", data := .fields #[.ref l, .int 0 0] }).objs.size := fun b hb => by
  obtain ⟨o, ho, _⟩ := h; rw [Heap.size_push]
  rcases List.mem_cons.mp hb with rfl | hb
  · omega
  · rw [List.mem_singleton.mp hb]; exact Nat.lt_succ_of_lt (Heap.lt_size ho)
theorem back {h' : Heap} (hk : ∀ b o, b ∉ [s.heap.objs.size] → (s.heap.push { cls := .type "tuple_iterator", data := .fields #[.ref l, .int 0 0] }).get? b = some o → h'.get? b = some o) : ∀ b o, s.heap.get? b = some o → h'.get? b = some o := fun b o e =>
  hk b o (fun z => absurd (Heap.lt_size e) (by rw [List.mem_singleton.mp z]; exact Nat.lt_irrefl _)) (Heap.get?_push_of_some _ e)
theorem max_ti (hh : A.handled = none) (hl : s.heap.IsTuple l (intItems xs)) (hne : 0 < xs.size)
    (h : ∀ v h' tk, (intItems xs)[argBest (fun i j => decide (numAt xs i > numAt xs j)) (xs.size - 1)]? = some v → (∀ b o, s.heap.get? b = some o → h'.get? b = some o) → Q v { s with heap := h', toks := tk }) : wpAny (model prog w) A (call (.builtin "max") [.ref l]) Q E s := by
  obtain ⟨o, ho, hc, n, hd⟩ := id hl; have ne : l ≠ s.heap.objs.size := Nat.ne_of_lt (Heap.lt_size ho)
  refine call_max_walk (wpAny_pyIter_tuple hl ?_)
  refine ⟨_, _, _, _, _, _, _, rfl, Walks.tuple (A := A.in1) hh _ l ne (intItems xs), ⟨⟨_, Heap.get?_push_size _ rfl, rfl, rfl⟩, hl.at fun o e => Heap.get?_push_of_some _ e⟩, fp2 hl, by simpa [intItems] using hne, CmpOf.ints_gt (numAt xs) (fun _ _ => intItems_at), fun v h' tk hP hk => h v h' tk (by simpa [intItems] using hP) (back hk)⟩
theorem min_ti (hh : A.handled = none) (hl : s.heap.IsTuple l (intItems xs)) (hne : 0 < xs.size)
    (h : ∀ v h' tk, (intItems xs)[argBest (fun i j => decide (numAt xs i < numAt xs j)) (xs.size - 1)]? = some v → (∀ b o, s.heap.get? b = some o → h'.get? b = some o) → Q v { s with heap := h', toks := tk }) : wpAny (model prog w) A (call (.builtin "min") [.ref l]) Q E s := by
  obtain ⟨o, ho, hc, n, hd⟩ := id hl; have ne : l ≠ s.heap.objs.size := Nat.ne_of_lt (Heap.lt_size ho)
  refine call_min_walk (wpAny_pyIter_tuple hl ?_)
  refine ⟨_, _, _, _, _, _, _, rfl, Walks.tuple (A := A.in1) hh _ l ne (intItems xs), ⟨⟨_, Heap.get?_push_size _ rfl, rfl, rfl⟩, hl.at fun o e => Heap.get?_push_of_some _ e⟩, fp2 hl, by simpa [intItems] using hne, CmpOf.ints_lt (numAt xs) (fun _ _ => intItems_at), fun v h' tk hP hk => h v h' tk (by simpa [intItems] using hP) (back hk)⟩
theorem sum_tr (hh : A.handled = none) (hl : s.heap.IsTuple l its.toArray) (hi : IntsAre its ns)
    (h : ∀ h' tk t', (∀ b o, s.heap.get? b = some o → h'.get? b = some o) → Q (.int ns.sum t') { s with heap := h', toks := tk }) : wpAny (model prog w) A (call (.builtin "sum") [.ref l]) Q E s := by
  obtain ⟨xs, e⟩ := hi.allInts.items; have hn : numsOf (intItems xs).toList = ns := by rw [← e]; exact hi.numsOf
  rw [nums_intItems] at hn; rw [e] at hl
  refine PySem.W.ktm_sumG hh hl fun h' tk t' hk => ?_; have q := h h' tk t' hk
  rw [preSum_eq, List.take_of_length_le (by simp), hn]; exact q
theorem max_tr (hh : A.handled = none) (hl : s.heap.IsTuple l its.toArray) (hi : IntsAre its ns) (hne : 0 < ns.length)
    (h : ∀ h' tk M t', (∀ b o, s.heap.get? b = some o → h'.get? b = some o) → M ∈ ns → (∀ a, a ∈ ns → a ≤ M) → Q (.int M t') { s with heap := h', toks := tk }) : wpAny (model prog w) A (call (.builtin "max") [.ref l]) Q E s := by
  obtain ⟨xs, e⟩ := hi.allInts.items; have hn : numsOf (intItems xs).toList = ns := by rw [← e]; exact hi.numsOf
  rw [nums_intItems] at hn; subst hn; rw [e] at hl; have hz : 0 < xs.size := by simpa using hne
  refine max_ti hh hl hz fun v h' tk hv hk => ?_; obtain ⟨t, rfl⟩ := intItems_at hv; obtain ⟨h1, h2⟩ := argBest_gt (numAt xs) (xs.size - 1)
  refine h h' tk _ t hk (by rw [numAt_eq]; exact PySem.getD_mem (by rw [List.length_map, Array.length_toList]; omega)) fun a ha => ?_
  obtain ⟨j, hj, rfl⟩ := mem_getD ha; rw [List.length_map, Array.length_toList] at hj; rw [← numAt_eq]; exact h2 j (by omega)
theorem min_tr (hh : A.handled = none) (hl : s.heap.IsTuple l its.toArray) (hi : IntsAre its ns) (hne : 0 < ns.length)
    (h : ∀ h' tk M t', (∀ b o, s.heap.get? b = some o → h'.get? b = some o) → M ∈ ns → (∀ a, a ∈ ns → M ≤ a) → Q (.int M t') { s with heap := h', toks := tk }) : wpAny (model prog w) A (call (.builtin "min") [.ref l]) Q E s := by
  obtain ⟨xs, e⟩ := hi.allInts.items; have hn : numsOf (intItems xs).toList = ns := by rw [← e]; exact hi.numsOf
  rw [nums_intItems] at hn; subst hn; rw [e] at hl; have hz : 0 < xs.size := by simpa using hne
  refine min_ti hh hl hz fun v h' tk hv hk => ?_; obtain ⟨t, rfl⟩ := intItems_at hv; obtain ⟨h1, h2⟩ := argBest_lt (numAt xs) (xs.size - 1)
  refine h h' tk _ t hk (by rw [numAt_eq]; exact PySem.getD_mem (by rw [List.length_map, Array.length_toList]; omega)) fun a ha => ?_
  obtain ⟨j, hj, rfl⟩ := mem_getD ha; rw [List.length_map, Array.length_toList] at hj; rw [← numAt_eq]; exact h2 j (by omega)
end
end TmO
namespace PyI
open PySem PySem.Spec PyProof.Rows L2
variable {X : Cx}
def sSumT (K : PySem.W.Frag) : List V → Hp → VK → Prop := fun vs H Q => ∃ (a : Addr) (ns : List Int), vs = [V.ref a] ∧ SqT K H a (ns.map V.int) ∧ Q (.int ns.sum) H
def sMaxT (K : PySem.W.Frag) : List V → Hp → VK → Prop := fun vs H Q => ∃ (a : Addr) (ns : List Int), vs = [V.ref a] ∧ SqT K H a (ns.map V.int) ∧ 0 < ns.length ∧ ∀ m, m ∈ ns → (∀ y, y ∈ ns → y ≤ m) → Q (.int m) H
def sMinT (K : PySem.W.Frag) : List V → Hp → VK → Prop := fun vs H Q => ∃ (a : Addr) (ns : List Int), vs = [V.ref a] ∧ SqT K H a (ns.map V.int) ∧ 0 < ns.length ∧ ∀ m, m ∈ ns → (∀ y, y ∈ ns → m ≤ y) → Q (.int m) H
theorem cr_sumT (hc : X.calm = true) : CallR X (.builtin "sum") (sSumT X.K) := by
  intro pins s σ H vs us Q I r ⟨a, ns, e, hs, q⟩; subst e
  obtain ⟨its, rv, hl, _⟩ := I.tuple hs; rw [Vals.ref1 r]
  exact TmO.sum_tr (I.ok.hd hc) hl rv.ints fun h' tk t' hk => ⟨.int _, H, I.kept hk, ⟨_, rfl⟩, q⟩
theorem cr_maxT (hc : X.calm = true) : CallR X (.builtin "max") (sMaxT X.K) := by
  intro pins s σ H vs us Q I r ⟨a, ns, e, hs, hne, q⟩; subst e
  obtain ⟨its, rv, hl, _⟩ := I.tuple hs; rw [Vals.ref1 r]
  exact TmO.max_tr (I.ok.hd hc) hl rv.ints hne fun h' tk m t' hk h1 h2 => ⟨.int _, H, I.kept hk, ⟨_, rfl⟩, q m h1 h2⟩
theorem cr_minT (hc : X.calm = true) : CallR X (.builtin "min") (sMinT X.K) := by
  intro pins s σ H vs us Q I r ⟨a, ns, e, hs, hne, q⟩; subst e
  obtain ⟨its, rv, hl, _⟩ := I.tuple hs; rw [Vals.ref1 r]
  exact TmO.min_tr (I.ok.hd hc) hl rv.ints hne fun h' tk m t' hk h1 h2 => ⟨.int _, H, I.kept hk, ⟨_, rfl⟩, q m h1 h2⟩
end PyI

/-! The evaluator's readings over the hand layer's judgements. -/
namespace PyI
open PySem PySem.Spec PyProof.Rows L2

structure Post (K : PySem.W.Frag) (σ : L2.St) (F H : Hp) (l0 : List Addr) (fo : Nat → List Addr) (q : Bool) (env : Env) (r : R) (env' : Env) (v : V) (F' H' : Hp) (fo' : Nat → List Addr) (l : List Addr) : Prop where
  st : Step F H (fun a => a ∈ l0 ∨ ofF fo a) F' H' (fun a => a ∈ l ∨ ofF fo' a)
  er : ER K F' H' σ env' fo'
  nd : l.Nodup
  dj : ∀ a ∈ l, ¬ ofF fo' a
  rr : RR K F' H' σ v r l
  qt : q = true → env' = env ∧ fo' = fo ∧ Same H H'
structure PostL (K : PySem.W.Frag) (σ : L2.St) (F H : Hp) (fo : Nat → List Addr) (q : Bool) (env : Env) (rs : List R) (env' : Env) (vs : List V) (F' H' : Hp) (fo' : Nat → List Addr) (l : List Addr) : Prop where
  st : Step F H (fun a => ofF fo a) F' H' (fun a => a ∈ l ∨ ofF fo' a)
  er : ER K F' H' σ env' fo'
  nd : l.Nodup
  dj : ∀ a ∈ l, ¬ ofF fo' a
  rr : RRs K F' H' σ vs rs l
  qt : q = true → env' = env ∧ fo' = fo ∧ Same H H'

/-- an expression's reading -/
def TEv (K : PySem.W.Frag) (Γ : Ctx) (e : E) : TE := fun σ H Q => ∃ F env fo r env', Same F H ∧ ER K F H σ env fo ∧ ev Γ e env = some (r, env') ∧
  ∀ v F' H' fo' l, Post K σ F H [] fo e.quiet env r env' v F' H' fo' l → Q v H'
theorem TEv.mono {K : PySem.W.Frag} {Γ : Ctx} {e : E} {σ : L2.St} {H : Hp} {Q Q' : VK} (h : TEv K Γ e σ H Q) (q : ∀ v H', Q v H' → Q' v H') : TEv K Γ e σ H Q' := by
  obtain ⟨F, env, fo, r, env', h1, h2, h3, h4⟩ := h
  exact ⟨F, env, fo, r, env', h1, h2, h3, fun v F' H' fo' l p => q v H' (h4 v F' H' fo' l p)⟩
/-- several in a row -/
def seqT (K : PySem.W.Frag) (Γ : Ctx) : Es → L2.St → Hp → (List V → Hp → Prop) → Prop
  | .nil, _, H, Q => Q [] H
  | .cons e es, σ, H, Q => TEv K Γ e σ H fun v H1 => seqT K Γ es σ H1 fun vs H2 => Q (v :: vs) H2
theorem seqT_mono {K : PySem.W.Frag} {Γ : Ctx} {σ : L2.St} : ∀ {es : Es} {H : Hp} {Q Q' : List V → Hp → Prop}, seqT K Γ es σ H Q → (∀ v H', Q v H' → Q' v H') → seqT K Γ es σ H Q'
  | .nil, _, _, _, h, q => q _ _ h
  | .cons e es, _, _, _, h, q => TEv.mono h fun v H1 h1 => seqT_mono h1 fun vs H2 => q _ _

section
variable {K : PySem.W.Frag} {Γ : Ctx} {σ : L2.St}
theorem rr_there {F H : Hp} {v : V} {r : R} {l : List Addr} (h : RR K F H σ v r l) : ∀ a ∈ l, (∃ o, H a = some o) ∧ F a = none := by
  cases h with
  | own h => exact or_foot _ _ _ h
  | al _ => intro a ha; cases ha
theorem deep_quiet {r : R} {b : Bool} (h : (r.deep && !b) = false) (hd : r.deep = true) : b = true := by
  rw [hd] at h
  cases b
  · cases h
  · rfl
/-- a pending result beside a further step -/
theorem pend {F H F1 H1 F2 H2 : Hp} {l0 l1 l2 : List Addr} {fo fo1 fo2 : Nat → List Addr} (s1 : Step F H (fun a => a ∈ l0 ∨ ofF fo a) F1 H1 (fun a => a ∈ l1 ∨ ofF fo1 a)) (n1 : l1.Nodup) (d1 : ∀ a ∈ l1, ¬ ofF fo1 a) (t1 : ∀ a ∈ l1, ∃ o, H1 a = some o)
    (s2 : Step F1 H1 (fun a => ofF fo1 a) F2 H2 (fun a => a ∈ l2 ∨ ofF fo2 a)) (n2 : l2.Nodup) :
    Step F H (fun a => a ∈ l0 ∨ ofF fo a) F2 H2 (fun a => a ∈ l1 ++ l2 ∨ ofF fo2 a) ∧ (l1 ++ l2).Nodup ∧ ∀ a ∈ l1, ¬ ofF fo2 a := by
  have out : ∀ a ∈ l1, ¬ (a ∈ l2 ∨ ofF fo2 a) := fun a ha q => by
    rcases s2.own a q with z | z
    · exact d1 a ha z
    · obtain ⟨o, e⟩ := t1 a ha
      rw [e] at z; cases z
  refine ⟨s1.trans ((s2.frame (M := fun a => a ∈ l1) (fun a ha => d1 a ha) t1).weak fun a q => ?_), List.nodup_append.mpr ⟨n1, n2, fun a ha b hb e => out a ha (.inl (e ▸ hb))⟩, fun a ha z => out a ha (.inr z)⟩
  rcases q with q | q
  · rcases List.mem_append.mp q with q | q
    · exact .inl q
    · exact .inr (.inl q)
  · exact .inr (.inr q)
theorem evs_seq : ∀ (es : Es) (F H : Hp) (env env' : Env) (fo : Nat → List Addr) (rs : List R) (Q : List V → Hp → Prop), Same F H → ER K F H σ env fo → evs Γ es env = some (rs, env') →
    (∀ vs F' H' fo' l, PostL K σ F H fo es.quiet env rs env' vs F' H' fo' l → Q vs H') → seqT K Γ es σ H Q
  | .nil, F, H, env, env', fo, rs, Q, fh, e, h, q => by
    unfold evs at h
    cases h
    exact q [] F H fo [] ⟨.refl fh fun a z => z.elim (fun y => nomatch y) id, e, List.nodup_nil, (fun _ z => nomatch z), .nil, fun _ => ⟨rfl, rfl, Same.refl H⟩⟩
  | .cons e es, F, H, env, env', fo, rs, Q, fh, er, h, q => by
    unfold evs at h
    cases h1 : ev Γ e env with
    | none => rw [h1] at h; cases h
    | some z =>
      obtain ⟨r, env1⟩ := z
      rw [h1] at h
      simp only at h
      cases hd : (r.deep && !es.quiet) with
      | true => rw [hd] at h; cases h
      | false =>
        rw [hd] at h
        simp only [Bool.false_eq_true, if_false] at h
        cases h2 : evs Γ es env1 with
        | none => rw [h2] at h; cases h
        | some z =>
          obtain ⟨rs', env2⟩ := z
          rw [h2] at h
          cases h
          refine ⟨F, env, fo, r, env1, fh, er, h1, fun v F1 H1 fo1 l1 p1 => ?_⟩
          refine evs_seq es F1 H1 env1 env' fo1 rs' _ p1.st.fh p1.er h2 fun vs F2 H2 fo2 l2 p2 => ?_
          have th := fun a ha => (rr_there p1.rr a ha).1
          obtain ⟨s, n, d⟩ := pend p1.st p1.nd p1.dj th p2.st p2.nd
          refine q (v :: vs) F2 H2 fo2 (l1 ++ l2) ⟨?_, p2.er, n, fun a ha => ?_, .cons (p1.rr.step p2.st p1.dj fun z => (p2.qt (deep_quiet hd z)).2.2) p2.rr, fun z => ?_⟩
          · exact ⟨s.fs, s.fh, fun b o hb hn => s.keep b o hb fun y => y.elim (fun w => nomatch w) hn, s.dom, fun a y => (s.own a y).imp (fun w => w.elim (fun u => nomatch u) id) id⟩
          · rcases List.mem_append.mp ha with ha | ha
            · exact d a ha
            · exact p2.dj a ha
          · unfold Es.quiet at z
            obtain ⟨z1, z2⟩ := Bool.and_eq_true_iff.mp z
            obtain ⟨a1, a2, a3⟩ := p1.qt z1
            obtain ⟨b1, b2, b3⟩ := p2.qt z2
            exact ⟨b1.trans a1, b2.trans a2, a3.trans b3⟩
end

/-! ### operators -/
/-- what is asked of an operator at its operands -/
def rdO (K : PySem.W.Frag) (σ : L2.St) (o : Op) : List V → Hp → VK → Prop := fun vs H Q => ∃ F env fo rs l r env', Same F H ∧ ER K F H σ env fo ∧ RRs K F H σ vs rs l ∧ l.Nodup ∧ (∀ a ∈ l, ¬ ofF fo a) ∧ opSem o rs env = some (r, env') ∧
  ∀ v F' H' fo' l', Post K σ F H l fo o.quiet env r env' v F' H' fo' l' → Q v H'
def flatOf : D → Option V
  | .none => some .non
  | .bool b => some (.bl b)
  | .int i => some (.int i)
  | .str x => some (.str x)
  | _ => none
theorem flatOf_dp {K : PySem.W.Frag} {F : Hp} : ∀ {d : D} {v : V}, flatOf d = some v → Dq K F v d
  | .none, _, h => by cases h; exact .non
  | .bool b, _, h => by cases h; exact .bl b
  | .int i, _, h => by cases h; exact .int i
  | .str x, _, h => by cases h; exact .str x
  | .list _, _, h => by cases h
  | .tuple _, _, h => by cases h
  | .dict _, _, h => by cases h
section
variable {K : PySem.W.Frag} {σ : L2.St} {H : Hp} {Q : VK} {vs : List V} {o : Op}
/-- a result that is shared data in a heap with at most new objects -/
theorem post_leaf {F F' H' : Hp} {env : Env} {fo : Nat → List Addr} {l : List Addr} {q : Bool} {v : V} {d : D} (er : ER K F H σ env fo) (fs : Same F F') (fh : Same F' H') (hs : Same H H') (hf : ∀ b o, H b = some o → F' b = F b) (hd : Dq K F' v d) :
    Post K σ F H l fo q env (.own (.leaf d)) env v F' H' fo [] where
  st := ⟨fs, fh, fun b o e _ => ⟨hs b o e, hf b o e⟩, fun b e => hs.free e, fun a z => .inl (z.elim (fun y => nomatch y) .inr)⟩
  er := er.kept fs fun a o ha ho => ⟨hs a o ho, hf a o ho⟩
  nd := List.nodup_nil
  dj := fun a ha => nomatch ha
  rr := .own (.leaf hd)
  qt := fun _ => ⟨rfl, rfl, hs⟩
/-- .. a new list of one's own -/
theorem post_new {F : Hp} {env : Env} {fo : Nat → List Addr} {l : List Addr} {p : Addr} {ws : List V} {ds : List D} {q : Bool} (fh : Same F H) (er : ER K F H σ env fo) (hp : H p = none) (hd : DqAll K F ws ds) :
    Post K σ F H l fo q env (.own (ofList ds)) env (.ref p) F (upd H p (.lst ws)) fo [p] := by
  have np : ∀ b o, H b = some o → b ≠ p := fun b o e z => by rw [z, hp] at e; cases e
  have hs : Same H (upd H p (.lst ws)) := fun b o e => by rw [upd_ne (np b o e)]; exact e
  have fp : F p = none := fh.free hp
  have er' := er.kept (H' := upd H p (.lst ws)) (Same.refl F) fun a o ha ho => ⟨hs a o ho, rfl⟩
  refine ⟨⟨Same.refl F, fh.trans hs, fun b o e _ => ⟨hs b o e, rfl⟩, fun b e => hs.free e, fun a z => ?_⟩, er', (by simp), fun a ha z => ?_, .own (.lst upd_same fp (ors_of_leaves ds ws hd)), fun _ => ⟨rfl, rfl, hs⟩⟩
  · rcases z with z | z
    · rw [List.mem_singleton.mp z]; exact .inr hp
    · exact .inl (.inr z)
  · rw [List.mem_singleton.mp ha] at z
    obtain ⟨⟨o, e⟩, _⟩ := er.there z
    rw [hp] at e; cases e
/-- a flat operator, by values -/
def rFl (K : PySem.W.Frag) (o : Op) : List V → Hp → VK → Prop := fun vs H Q => ∃ ds d, DqAll K H vs ds ∧ flatSem o ds = some d ∧ ∀ v, flatOf d = some v → Q v H
theorem flat_rd (ho : isFlat o = true) (h : rdO K σ o vs H Q) : rFl K o vs H Q := by
  obtain ⟨F, env, fo, rs, l, r, env', fh, er, rr, nd, dj, e, q⟩ := h
  unfold opSem at e
  rw [if_pos ho] at e
  cases h1 : dats env rs with
  | none => rw [h1] at e; cases e
  | some ds =>
    rw [h1] at e
    obtain ⟨d, e1, e2⟩ := Option.map_eq_some_iff.mp e
    cases e2
    exact ⟨ds, d, dats_rep fh er rr h1, e1, fun v hv => q v F H fo [] (post_leaf er (Same.refl F) fh (Same.refl H) (fun _ _ _ => rfl) (flatOf_dp hv))⟩
theorem L_len : ∀ {vs : List V} {ds : List D}, DqAll K H vs ds → vs.length = ds.length
  | _, _, .nil => rfl
  | _, _, .cons _ h => by simp [L_len h]
theorem dp1 {x : V} {ds : List D} (h : DqAll K H [x] ds) : ∃ d, ds = [d] ∧ Dq K H x d := by
  cases h with | cons a b => cases b; exact ⟨_, rfl, a⟩
theorem dp2 {x y : V} {ds : List D} (h : DqAll K H [x, y] ds) : ∃ d e, ds = [d, e] ∧ Dq K H x d ∧ Dq K H y e := by
  cases h with | cons a b => cases b with | cons c d => cases d; exact ⟨_, _, rfl, a, c⟩
theorem dp_int {x : V} {i : Int} (h : Dq K H x (.int i)) : x = .int i := by cases h; rfl
theorem dp_bl {x : V} {b : Bool} (h : Dq K H x (.bool b)) : x = .bl b := by cases h; rfl
/-- two ints in -/
theorem int2 {x y : V} (h : rFl K o [x, y] H Q) (f : ∀ d e r, flatSem o [d, e] = some r → ∃ i j, d = .int i ∧ e = .int j) :
    ∃ i j r, x = .int i ∧ y = .int j ∧ flatSem o [.int i, .int j] = some r ∧ ∀ v, flatOf r = some v → Q v H := by
  obtain ⟨ds, r, h1, h2, h3⟩ := h
  obtain ⟨d, e, rfl, hd, he⟩ := dp2 h1
  obtain ⟨i, j, rfl, rfl⟩ := f d e r h2
  exact ⟨i, j, r, dp_int hd, dp_int he, h2, h3⟩
theorem int1 {x : V} (h : rFl K o [x] H Q) (f : ∀ d r, flatSem o [d] = some r → ∃ i, d = .int i) :
    ∃ i r, x = .int i ∧ flatSem o [.int i] = some r ∧ ∀ v, flatOf r = some v → Q v H := by
  obtain ⟨ds, r, h1, h2, h3⟩ := h
  obtain ⟨d, rfl, hd⟩ := dp1 h1
  obtain ⟨i, rfl⟩ := f d r h2
  exact ⟨i, r, dp_int hd, h2, h3⟩

/-! #### ints -/
theorem rd_sub {x y : V} (h : rFl K .sub [x, y] H Q) : rI0 (fun i j => .int (i - j)) x y H Q := by
  obtain ⟨i, j, r, rfl, rfl, e, q⟩ := int2 h fun d e r h => by cases d <;> cases e <;> first | exact ⟨_, _, rfl, rfl⟩ | cases h
  cases e
  exact ⟨i, j, rfl, rfl, q _ rfl⟩
theorem rd_mul {x y : V} (h : rFl K .mul [x, y] H Q) : rI CMul (fun i j => .int (i * j)) x y H Q := by
  obtain ⟨i, j, r, rfl, rfl, e, q⟩ := int2 h fun d e r h => by cases d <;> cases e <;> first | exact ⟨_, _, rfl, rfl⟩ | cases h
  replace e : (if intMulOk i j = true then some (PyData.int (i * j)) else none) = some r := e
  by_cases c : intMulOk i j = true
  · rw [if_pos c] at e
    cases e
    refine ⟨i, j, rfl, rfl, ?_, q _ rfl⟩
    unfold intMulOk at c
    simp only [Bool.or_eq_true, Bool.and_eq_true, decide_eq_true_eq] at c
    exact c
  · rw [if_neg c] at e; cases e
theorem rd_fdiv {x y : V} (h : rFl K .fdiv [x, y] H Q) : rI CDivN (fun i j => .int (i.fdiv j)) x y H Q := by
  obtain ⟨i, j, r, rfl, rfl, e, q⟩ := int2 h fun d e r h => by cases d <;> cases e <;> first | exact ⟨_, _, rfl, rfl⟩ | cases h
  replace e : (if j ≠ 0 ∧ j.natAbs < 1073741824 then some (PyData.int (i.fdiv j)) else none) = some r := e
  by_cases c : j ≠ 0 ∧ j.natAbs < 1073741824
  · rw [if_pos c] at e
    cases e
    exact ⟨i, j, rfl, rfl, c, q _ rfl⟩
  · rw [if_neg c] at e; cases e
theorem rd_mod {x y : V} (h : rFl K .mod [x, y] H Q) : rI (fun _ j => j ≠ 0) (fun i j => .int (i.fmod j)) x y H Q := by
  obtain ⟨i, j, r, rfl, rfl, e, q⟩ := int2 h fun d e r h => by cases d <;> cases e <;> first | exact ⟨_, _, rfl, rfl⟩ | cases h
  replace e : (if j ≠ 0 then some (PyData.int (i.fmod j)) else none) = some r := e
  by_cases c : j ≠ 0
  · rw [if_pos c] at e
    cases e
    exact ⟨i, j, rfl, rfl, c, q _ rfl⟩
  · rw [if_neg c] at e; cases e
theorem rd_pow {x y : V} (h : rFl K .pow [x, y] H Q) : rI CPow (fun i j => .int (i ^ j.toNat)) x y H Q := by
  obtain ⟨i, j, r, rfl, rfl, e, q⟩ := int2 h fun d e r h => by cases d <;> cases e <;> first | exact ⟨_, _, rfl, rfl⟩ | cases h
  replace e : (if 0 ≤ j ∧ j ≤ 1000000 ∧ i.natAbs < 2 ^ 64 then some (PyData.int (i ^ j.toNat)) else none) = some r := e
  by_cases c : 0 ≤ j ∧ j ≤ 1000000 ∧ i.natAbs < 2 ^ 64
  · rw [if_pos c] at e
    cases e
    exact ⟨i, j, rfl, rfl, c, q _ rfl⟩
  · rw [if_neg c] at e; cases e
theorem rd_neg {x : V} (h : rFl K .neg [x] H Q) : rU (fun i => .int (-i)) x H Q := by
  obtain ⟨i, r, rfl, e, q⟩ := int1 h fun d r h => by cases d <;> first | exact ⟨_, rfl⟩ | cases h
  cases e
  exact ⟨i, rfl, q _ rfl⟩
theorem rd_abs {x : V} (h : rFl K .abs [x] H Q) : ∃ i, [x] = [.int i] ∧ Q (.int (if i < 0 then -i else i)) H := by
  obtain ⟨i, r, rfl, e, q⟩ := int1 h fun d r h => by cases d <;> first | exact ⟨_, rfl⟩ | cases h
  cases e
  exact ⟨i, rfl, q _ rfl⟩
theorem rd_lt {x y : V} (h : rFl K .lt [x, y] H Q) : rI0 (fun i j => .bl (decide (i < j))) x y H Q := by
  obtain ⟨i, j, r, rfl, rfl, e, q⟩ := int2 h fun d e r h => by cases d <;> cases e <;> first | exact ⟨_, _, rfl, rfl⟩ | cases h
  cases e
  exact ⟨i, j, rfl, rfl, q _ rfl⟩
theorem rd_le {x y : V} (h : rFl K .le [x, y] H Q) : rI0 (fun i j => .bl (decide (i ≤ j))) x y H Q := by
  obtain ⟨i, j, r, rfl, rfl, e, q⟩ := int2 h fun d e r h => by cases d <;> cases e <;> first | exact ⟨_, _, rfl, rfl⟩ | cases h
  cases e
  exact ⟨i, j, rfl, rfl, q _ rfl⟩
theorem rd_gt {x y : V} (h : rFl K .gt [x, y] H Q) : rI0 (fun i j => .bl (decide (j < i))) x y H Q := by
  obtain ⟨i, j, r, rfl, rfl, e, q⟩ := int2 h fun d e r h => by cases d <;> cases e <;> first | exact ⟨_, _, rfl, rfl⟩ | cases h
  cases e
  exact ⟨i, j, rfl, rfl, q _ rfl⟩
theorem rd_ge {x y : V} (h : rFl K .ge [x, y] H Q) : rI0 (fun i j => .bl (decide (j ≤ i))) x y H Q := by
  obtain ⟨i, j, r, rfl, rfl, e, q⟩ := int2 h fun d e r h => by cases d <;> cases e <;> first | exact ⟨_, _, rfl, rfl⟩ | cases h
  cases e
  exact ⟨i, j, rfl, rfl, q _ rfl⟩
theorem rd_min2 {x y : V} (h : rFl K .min [x, y] H Q) : ∃ i j, [x, y] = [.int i, .int j] ∧ Q (.int (if j < i then j else i)) H := by
  obtain ⟨i, j, r, rfl, rfl, e, q⟩ := int2 h fun d e r h => by cases d <;> cases e <;> first | exact ⟨_, _, rfl, rfl⟩ | cases h
  cases e
  exact ⟨i, j, rfl, q _ rfl⟩
theorem rd_max2 {x y : V} (h : rFl K .max [x, y] H Q) : ∃ i j, [x, y] = [.int i, .int j] ∧ Q (.int (if j > i then j else i)) H := by
  obtain ⟨i, j, r, rfl, rfl, e, q⟩ := int2 h fun d e r h => by cases d <;> cases e <;> first | exact ⟨_, _, rfl, rfl⟩ | cases h
  cases e
  exact ⟨i, j, rfl, q _ rfl⟩
theorem rd_int {x : V} (h : rFl K .int [x] H Q) : (∃ i, [x] = [.int i] ∧ Q (.int i) H) ∨ ∃ k, [x] = [.bl k] ∧ Q (.int (if k then 1 else 0)) H := by
  obtain ⟨ds, r, h1, h2, h3⟩ := h
  obtain ⟨d, rfl, hd⟩ := dp1 h1
  cases d with
  | int i => cases h2; rw [dp_int hd]; exact .inl ⟨i, rfl, h3 _ rfl⟩
  | bool b => cases h2; rw [dp_bl hd]; exact .inr ⟨b, rfl, h3 _ rfl⟩
  | _ => cases h2
theorem rd_str {x : V} (h : rFl K .str [x] H Q) : ∃ i, [x] = [.int i] ∧ i.natAbs.log2 < 1920 ∧ Q (.str (toString i)) H := by
  obtain ⟨i, r, rfl, e, q⟩ := int1 h fun d r h => by cases d <;> first | exact ⟨_, rfl⟩ | cases h
  replace e : (if i.natAbs.log2 < 1920 then some (PyData.str (toString i)) else none) = some r := e
  by_cases c : i.natAbs.log2 < 1920
  · rw [if_pos c] at e
    cases e
    exact ⟨i, rfl, c, q _ rfl⟩
  · rw [if_neg c] at e; cases e
/-! #### data -/
theorem hd_shaped {d : D} (h : SeqAt.shaped d = true) : d.hasDict = false := by
  unfold SeqAt.shaped at h
  exact PyData.hasDict_of_canLay d (Bool.and_eq_true_iff.mp h).1
theorem rd_eq {x y : V} (h : rFl K .eq [x, y] H Q) : rEqD K x y H Q := by
  obtain ⟨ds, r, h1, h2, h3⟩ := h
  obtain ⟨d, e, rfl, hd, he⟩ := dp2 h1
  replace h2 : (if (SeqAt.shaped d && SeqAt.shaped e) = true then some (PyData.bool (PyData.eqv d e)) else none) = some r := by rw [← h2]; unfold flatSem; rfl
  by_cases c : (SeqAt.shaped d && SeqAt.shaped e) = true
  · rw [if_pos c] at h2
    cases h2
    obtain ⟨c1, c2⟩ := Bool.and_eq_true_iff.mp c
    exact ⟨d, e, hd.dp _ _ (hd_shaped c1), he.dp _ _ (hd_shaped c2), c1, c2, h3 _ rfl⟩
  · rw [if_neg c] at h2; cases h2
theorem rd_ne {x y : V} (h : rFl K .ne [x, y] H Q) : rNeD K x y H Q := by
  obtain ⟨ds, r, h1, h2, h3⟩ := h
  obtain ⟨d, e, rfl, hd, he⟩ := dp2 h1
  replace h2 : (if (SeqAt.shaped d && SeqAt.shaped e) = true then some (PyData.bool (!PyData.eqv d e)) else none) = some r := by rw [← h2]; unfold flatSem; rfl
  by_cases c : (SeqAt.shaped d && SeqAt.shaped e) = true
  · rw [if_pos c] at h2
    cases h2
    obtain ⟨c1, c2⟩ := Bool.and_eq_true_iff.mp c
    exact ⟨d, e, hd.dp _ _ (hd_shaped c1), he.dp _ _ (hd_shaped c2), c1, c2, h3 _ rfl⟩
  · rw [if_neg c] at h2; cases h2
theorem dp_non {x : V} {d : D} (h : Dq K H x d) : decide (x = .non) = (match d with | .none => true | _ => false) := by cases h <;> first | rfl | exact decide_eq_false (fun z => nomatch z)
theorem rd_isN {x : V} (h : rFl K .isN [x] H Q) : Q (.bl (decide (x = .non))) H := by
  obtain ⟨ds, r, h1, h2, h3⟩ := h
  obtain ⟨d, rfl, hd⟩ := dp1 h1
  rw [dp_non hd]
  cases d <;> (cases h2; exact h3 _ rfl)
theorem rd_notN {x : V} (h : rFl K .notN [x] H Q) : Q (.bl (!decide (x = .non))) H := by
  obtain ⟨ds, r, h1, h2, h3⟩ := h
  obtain ⟨d, rfl, hd⟩ := dp1 h1
  rw [dp_non hd]
  cases d <;> (cases h2; exact h3 _ rfl)
theorem rd_isT {x : V} (h : rFl K .isT [x] H Q) : rIsB x (.bl true) H Q := by
  obtain ⟨ds, r, h1, h2, h3⟩ := h
  obtain ⟨d, rfl, hd⟩ := dp1 h1
  cases d with
  | bool b => cases hd; cases h2; exact ⟨b, true, rfl, rfl, by rw [show decide (b = true) = b by cases b <;> rfl]; exact h3 _ rfl⟩
  | _ => cases h2
theorem rd_notT {x : V} (h : rFl K .notT [x] H Q) : rNotB x (.bl true) H Q := by
  obtain ⟨ds, r, h1, h2, h3⟩ := h
  obtain ⟨d, rfl, hd⟩ := dp1 h1
  cases d with
  | bool b => cases hd; cases h2; exact ⟨b, true, rfl, rfl, by rw [show decide (b = true) = b by cases b <;> rfl]; exact h3 _ rfl⟩
  | _ => cases h2
theorem rd_len {x : V} (h : rFl K .len [x] H Q) : (∃ p ys, [x] = [.ref p] ∧ (SqL K H p ys ∨ SqT K H p ys) ∧ Q (.int ys.length) H) ∨ ∃ p kvs, [x] = [.ref p] ∧ Rd H p (.dK kvs) ∧ Q (.int kvs.length) H := by
  obtain ⟨ds, r, h1, h2, h3⟩ := h
  obtain ⟨d, rfl, hd⟩ := dp1 h1
  cases d with
  | list es =>
    cases hd with
    | lst a b => cases h2; exact .inl ⟨_, _, rfl, .inl a.sq, by rw [L_len b]; exact h3 _ rfl⟩
  | tuple es =>
    cases hd with
    | tup a b => cases h2; exact .inl ⟨_, _, rfl, .inr a, by rw [L_len b]; exact h3 _ rfl⟩
  | dict es =>
    cases hd with
    | @dic a ks vs ds _ g1 g2 g3 g4 =>
      cases h2
      refine .inr ⟨_, _, rfl, g1, ?_⟩
      have := L_len g3
      have e : es.length = (ks.zip vs).length := by rw [g4, List.length_zip, List.length_zip, List.length_map]; omega
      rw [← e]; exact h3 _ rfl
  | _ => cases h2
theorem dp_ints : ∀ {ds : List D} {ns : List Int} {ws : List V}, ints? ds = some ns → DqAll K H ws ds → ws = ns.map V.int
  | [], _, _, e, h => by cases e; cases h; rfl
  | .int i :: r, ns, _, e, h => by
    unfold ints? at e
    obtain ⟨ms, e1, e2⟩ := Option.map_eq_some_iff.mp e
    cases e2
    cases h with | cons a b => rw [dp_int a, dp_ints e1 b]; rfl
  | .none :: _, _, _, e, _ => by cases e
  | .bool _ :: _, _, _, e, _ => by cases e
  | .str _ :: _, _, _, e, _ => by cases e
  | .list _ :: _, _, _, e, _ => by cases e
  | .tuple _ :: _, _, _, e, _ => by cases e
  | .dict _ :: _, _, _, e, _ => by cases e
theorem dp_bools : ∀ {ds : List D} {ns : List Bool} {ws : List V}, bools? ds = some ns → DqAll K H ws ds → ws = ns.map V.bl
  | [], _, _, e, h => by cases e; cases h; rfl
  | .bool i :: r, ns, _, e, h => by
    unfold bools? at e
    obtain ⟨ms, e1, e2⟩ := Option.map_eq_some_iff.mp e
    cases e2
    cases h with | cons a b => rw [dp_bl a, dp_bools e1 b]; rfl
  | .none :: _, _, _, e, _ => by cases e
  | .int _ :: _, _, _, e, _ => by cases e
  | .str _ :: _, _, _, e, _ => by cases e
  | .list _ :: _, _, _, e, _ => by cases e
  | .tuple _ :: _, _, _, e, _ => by cases e
  | .dict _ :: _, _, _, e, _ => by cases e
theorem list1 {x : V} (h : rFl K o [x] H Q) (f : ∀ d r, flatSem o [d] = some r → ∃ ds, d = .list ds) :
    ∃ a ws ds r, x = .ref a ∧ SqL K H a ws ∧ DqAll K H ws ds ∧ flatSem o [.list ds] = some r ∧ ∀ v, flatOf r = some v → Q v H := by
  obtain ⟨ds, r, h1, h2, h3⟩ := h
  obtain ⟨d, rfl, hd⟩ := dp1 h1
  obtain ⟨es, rfl⟩ := f d r h2
  cases hd with
  | lst a b => exact ⟨_, _, es, r, rfl, a.sq, b, h2, h3⟩
theorem rd_sum {x : V} (h : rFl K .sum [x] H Q) : rSum K [x] H Q ∨ sSumT K [x] H Q := by
  obtain ⟨ds, r, h1, h2, h3⟩ := h
  obtain ⟨d, rfl, hd⟩ := dp1 h1
  have go : ∀ {ws : List V} {es : List D}, DqAll K H ws es → (ints? es).map (fun ns => PyData.int ns.sum) = some r → ∃ ns : List Int, ws = ns.map V.int ∧ Q (.int ns.sum) H := fun hd e => by
    obtain ⟨ns, e1, e2⟩ := Option.map_eq_some_iff.mp e
    cases e2
    exact ⟨ns, dp_ints e1 hd, h3 _ rfl⟩
  cases d with
  | list es => cases hd with
    | lst a b =>
      obtain ⟨ns, rfl, q⟩ := go b h2
      exact .inl ⟨_, ns, rfl, a.sq, q⟩
  | tuple es => cases hd with
    | tup a b =>
      obtain ⟨ns, rfl, q⟩ := go b h2
      exact .inr ⟨_, ns, rfl, a, q⟩
  | _ => cases h2
theorem rd_any {x : V} (h : rFl K .any [x] H Q) : rAny K [x] H Q := by
  obtain ⟨a, ws, ds, r, rfl, hs, hd, e, q⟩ := list1 h fun d r h => by cases d <;> first | exact ⟨_, rfl⟩ | cases h
  obtain ⟨ns, e1, e2⟩ := Option.map_eq_some_iff.mp (show (bools? ds).map (fun bs => PyData.bool (bs.any id)) = some r from e)
  cases e2
  rw [dp_bools e1 hd] at hs
  exact ⟨a, ns, rfl, hs, q _ rfl⟩
theorem rd_all {x : V} (h : rFl K .all [x] H Q) : rAll K [x] H Q := by
  obtain ⟨a, ws, ds, r, rfl, hs, hd, e, q⟩ := list1 h fun d r h => by cases d <;> first | exact ⟨_, rfl⟩ | cases h
  obtain ⟨ns, e1, e2⟩ := Option.map_eq_some_iff.mp (show (bools? ds).map (fun bs => PyData.bool (bs.all id)) = some r from e)
  cases e2
  rw [dp_bools e1 hd] at hs
  exact ⟨a, ns, rfl, hs, q _ rfl⟩
theorem maxI_of : ∀ {ns : List Int} {m : Int}, maxI ns = some m → 0 < ns.length ∧ ∀ k, k ∈ ns → (∀ y, y ∈ ns → y ≤ k) → k = m
  | [], _, h => by cases h
  | [x], m, h => by
    cases h
    exact ⟨by simp, fun k hk _ => by simpa using hk⟩
  | x :: y :: r, m, h => by
    unfold maxI at h
    obtain ⟨m', h1, h2⟩ := Option.map_eq_some_iff.mp h
    obtain ⟨g1, g2⟩ := maxI_of h1
    have up : ∀ (l : List Int) (m : Int), maxI l = some m → m ∈ l ∧ ∀ z ∈ l, z ≤ m := by
      intro l
      induction l with
      | nil => intro m h; cases h
      | cons a l ih =>
        intro m h
        cases l with
        | nil => cases h; exact ⟨by simp, fun z hz => by simp at hz; omega⟩
        | cons b l =>
          unfold maxI at h
          obtain ⟨m1, q1, q2⟩ := Option.map_eq_some_iff.mp h
          obtain ⟨w1, w2⟩ := ih m1 q1
          by_cases c : m1 > a
          · rw [if_pos c] at q2
            subst q2
            exact ⟨List.mem_cons_of_mem _ w1, fun z hz => by rcases List.mem_cons.mp hz with e | hz; omega; exact w2 z hz⟩
          · rw [if_neg c] at q2
            subst q2
            exact ⟨List.mem_cons_self, fun z hz => by rcases List.mem_cons.mp hz with e | hz; omega; have := w2 z hz; omega⟩
    obtain ⟨u1, u2⟩ := up (x :: y :: r) m (by unfold maxI; exact h)
    refine ⟨by simp, fun k hk hle => ?_⟩
    have a1 := hle m u1
    have a2 := u2 k hk
    omega
theorem minI_of : ∀ {ns : List Int} {m : Int}, minI ns = some m → 0 < ns.length ∧ ∀ k, k ∈ ns → (∀ y, y ∈ ns → k ≤ y) → k = m
  | [], _, h => by cases h
  | x :: r, m, h => by
    have up : ∀ (l : List Int) (m : Int), minI l = some m → m ∈ l ∧ ∀ z ∈ l, m ≤ z := by
      intro l
      induction l with
      | nil => intro m h; cases h
      | cons a l ih =>
        intro m h
        cases l with
        | nil => cases h; exact ⟨by simp, fun z hz => by simp at hz; omega⟩
        | cons b l =>
          unfold minI at h
          obtain ⟨m1, q1, q2⟩ := Option.map_eq_some_iff.mp h
          obtain ⟨w1, w2⟩ := ih m1 q1
          by_cases c : m1 < a
          · rw [if_pos c] at q2
            subst q2
            exact ⟨List.mem_cons_of_mem _ w1, fun z hz => by rcases List.mem_cons.mp hz with e | hz; omega; exact w2 z hz⟩
          · rw [if_neg c] at q2
            subst q2
            exact ⟨List.mem_cons_self, fun z hz => by rcases List.mem_cons.mp hz with e | hz; omega; have := w2 z hz; omega⟩
    obtain ⟨u1, u2⟩ := up (x :: r) m h
    refine ⟨by simp, fun k hk hle => ?_⟩
    have a1 := hle m u1
    have a2 := u2 k hk
    omega
theorem rd_max1 {x : V} (h : rFl K .max [x] H Q) : rMax K [x] H Q ∨ sMaxT K [x] H Q := by
  obtain ⟨ds, r, h1, h2, h3⟩ := h
  obtain ⟨d, rfl, hd⟩ := dp1 h1
  have go : ∀ {ws : List V} {es : List D}, DqAll K H ws es → (ints? es).bind (fun ns => (maxI ns).map PyData.int) = some r → ∃ (ns : List Int) (m : Int), ws = ns.map V.int ∧ maxI ns = some m ∧ Q (.int m) H := fun hd e => by
    obtain ⟨ns, e1, e2⟩ := Option.bind_eq_some_iff.mp e
    obtain ⟨m, e3, e4⟩ := Option.map_eq_some_iff.mp e2
    cases e4
    exact ⟨ns, m, dp_ints e1 hd, e3, h3 _ rfl⟩
  cases d with
  | list es => cases hd with
    | lst a b =>
      obtain ⟨ns, m, rfl, e, q⟩ := go b h2
      obtain ⟨g1, g2⟩ := maxI_of e
      exact .inl ⟨_, ns, rfl, a.sq, g1, fun k hk hle => by rw [g2 k hk hle]; exact q⟩
  | tuple es => cases hd with
    | tup a b =>
      obtain ⟨ns, m, rfl, e, q⟩ := go b h2
      obtain ⟨g1, g2⟩ := maxI_of e
      exact .inr ⟨_, ns, rfl, a, g1, fun k hk hle => by rw [g2 k hk hle]; exact q⟩
  | _ => cases h2
theorem rd_min1 {x : V} (h : rFl K .min [x] H Q) : rMin K [x] H Q ∨ sMinT K [x] H Q := by
  obtain ⟨ds, r, h1, h2, h3⟩ := h
  obtain ⟨d, rfl, hd⟩ := dp1 h1
  have go : ∀ {ws : List V} {es : List D}, DqAll K H ws es → (ints? es).bind (fun ns => (minI ns).map PyData.int) = some r → ∃ (ns : List Int) (m : Int), ws = ns.map V.int ∧ minI ns = some m ∧ Q (.int m) H := fun hd e => by
    obtain ⟨ns, e1, e2⟩ := Option.bind_eq_some_iff.mp e
    obtain ⟨m, e3, e4⟩ := Option.map_eq_some_iff.mp e2
    cases e4
    exact ⟨ns, m, dp_ints e1 hd, e3, h3 _ rfl⟩
  cases d with
  | list es => cases hd with
    | lst a b =>
      obtain ⟨ns, m, rfl, e, q⟩ := go b h2
      obtain ⟨g1, g2⟩ := minI_of e
      exact .inl ⟨_, ns, rfl, a.sq, g1, fun k hk hle => by rw [g2 k hk hle]; exact q⟩
  | tuple es => cases hd with
    | tup a b =>
      obtain ⟨ns, m, rfl, e, q⟩ := go b h2
      obtain ⟨g1, g2⟩ := minI_of e
      exact .inr ⟨_, ns, rfl, a, g1, fun k hk hle => by rw [g2 k hk hle]; exact q⟩
  | _ => cases h2
theorem flat_V {x : V} {d : D} (h : Dq K H x d) (f : flatD d = true) : flatV x = true := by cases h <;> first | rfl | cases f
theorem flat_eqV {x y : V} {d e : D} (h : Dq K H x d) (g : Dq K H y e) (f : flatD d = true) (f2 : flatD e = true) : eqV y x = PyData.eqv e d := by
  cases h <;> first | (cases f; done) | skip
  all_goals (cases g <;> first | (cases f2; done) | rfl)
theorem flat_in {x : V} {d : D} (h : Dq K H x d) (f : flatD d = true) : ∀ {xs : List V} {ds : List D}, DqAll K H xs ds → ds.all flatD = true → xs.all flatV = true ∧ inV x xs = ds.any fun z => PyData.eqv z d
  | _, _, .nil, _ => ⟨rfl, rfl⟩
  | _, _, .cons (v := y) (d := e) a b, g => by
    rw [List.all_cons] at g
    obtain ⟨g1, g2⟩ := Bool.and_eq_true_iff.mp g
    obtain ⟨q1, q2⟩ := flat_in h f b g2
    refine ⟨?_, ?_⟩
    · rw [List.all_cons, flat_V a g1, q1]; rfl
    · unfold inV at q2 ⊢
      rw [List.any_cons, List.any_cons, q2, flat_eqV h a f g1]
theorem rd_inS {x y : V} {Q2 : Bool → Prop} {d e : D} (hd : Dq K H x d) (he : Dq K H y e) {b : Bool} (h : inSem d e = some b) : (∃ ds, Dp K H x d ∧ Dp K H y (.list ds) ∧ SeqAt.shaped d = true ∧ SeqAt.shaped (.list ds) = true ∧ b = ds.any fun z => PyData.eqv z d) ∨ (∃ p xs, y = .ref p ∧ (SqL K H p xs ∨ SqT K H p xs) ∧ flatV x = true ∧ xs.all flatV = true ∧ b = inV x xs) ∨ (∃ a kvs key, y = .ref a ∧ x = kV key ∧ Rd H a (.dK kvs) ∧ b = (valV kvs key).isSome) := by
  cases e with
  | dict kvs =>
    obtain ⟨key, h1, h2⟩ := Option.map_eq_some_iff.mp h
    cases he with
    | @dic a ks vs ds _ g1 g2 g3 g4 =>
      refine .inr (.inr ⟨a, ks.zip vs, key, rfl, dq_key hd h1, g1, ?_⟩)
      rw [← h2, g4, keys_zip (g2.trans (L_len g3)), posK_isSome g2]
  | list ds =>
    replace h : (if (SeqAt.shaped d && SeqAt.shaped (.list ds)) = true then some (ds.any fun z => PyData.eqv z d) else none) = some b := h
    split at h
    · rename_i c
      obtain ⟨c1, c2⟩ := Bool.and_eq_true_iff.mp c
      cases h
      exact .inl ⟨ds, hd.dp _ _ (hd_shaped c1), he.dp _ _ (hd_shaped c2), c1, c2, rfl⟩
    · cases h
  | tuple ds =>
    replace h : (if (flatD d && ds.all flatD) = true then some (ds.any fun z => PyData.eqv z d) else none) = some b := h
    split at h
    · rename_i c
      obtain ⟨c1, c2⟩ := Bool.and_eq_true_iff.mp c
      cases h
      cases he with
      | tup a b =>
        obtain ⟨q1, q2⟩ := flat_in hd c1 b c2
        exact .inr (.inl ⟨_, _, rfl, .inr a, flat_V hd c1, q1, q2.symm⟩)
    · cases h
  | _ => cases h
/-- a key in a dict -/
def rInK (neg : Bool) : R2 := fun x y H Q => ∃ a kvs key, y = .ref a ∧ x = kV key ∧ Rd H a (.dK kvs) ∧ Q (.bl (if neg then !(valV kvs key).isSome else (valV kvs key).isSome)) H
theorem rd_in {x y : V} (h : rFl K .isin [x, y] H Q) : (rInD K x y H Q ∨ rIn K false x y H Q) ∨ rInK false x y H Q := by
  obtain ⟨ds, r, h1, h2, h3⟩ := h
  obtain ⟨d, e, rfl, hd, he⟩ := dp2 h1
  obtain ⟨b, e1, e2⟩ := Option.map_eq_some_iff.mp (show (inSem d e).map PyData.bool = some r from h2)
  cases e2
  rcases rd_inS (Q2 := fun _ => True) hd he e1 with ⟨es, g0, g1, g2, g3, rfl⟩ | ⟨p, xs, g1, g2, g3, g4, rfl⟩ | ⟨a, kvs, key, g1, g2, g3, rfl⟩
  · exact .inl (.inl ⟨d, es, g0, g1, g2, g3, h3 _ rfl⟩)
  · exact .inl (.inr ⟨p, xs, g1, g2, g3, g4, h3 _ rfl⟩)
  · exact .inr ⟨a, kvs, key, g1, g2, g3, h3 _ rfl⟩
theorem rd_notin {x y : V} (h : rFl K .notin [x, y] H Q) : (rNotInD K x y H Q ∨ rIn K true x y H Q) ∨ rInK true x y H Q := by
  obtain ⟨ds, r, h1, h2, h3⟩ := h
  obtain ⟨d, e, rfl, hd, he⟩ := dp2 h1
  obtain ⟨b, e1, e2⟩ := Option.map_eq_some_iff.mp (show (inSem d e).map (fun b => PyData.bool (!b)) = some r from h2)
  cases e2
  rcases rd_inS (Q2 := fun _ => True) hd he e1 with ⟨es, g0, g1, g2, g3, rfl⟩ | ⟨p, xs, g1, g2, g3, g4, rfl⟩ | ⟨a, kvs, key, g1, g2, g3, rfl⟩
  · exact .inl (.inl ⟨d, es, g0, g1, g2, g3, h3 _ rfl⟩)
  · exact .inl (.inr ⟨p, xs, g1, g2, g3, g4, h3 _ rfl⟩)
  · exact .inr ⟨a, kvs, key, g1, g2, g3, h3 _ rfl⟩
theorem dp_ty {x : V} {d : D} (h : Dq K H x d) {c : String} {b : Bool} (hc : c ∈ ["int", "bool", "str", "list", "tuple"]) (e : isA c d = some b) : ∃ t, TyX K H x (.type t) ∧ kitB t c = some b := by
  simp only [List.mem_cons, List.not_mem_nil, or_false] at hc
  have ty : (∃ t, TyX K H x (.type t) ∧ ((d = .none ∧ t = "NoneType") ∨ (∃ k, d = .bool k ∧ t = "bool") ∨ (∃ k, d = .int k ∧ t = "int") ∨ (∃ k, d = .str k ∧ t = "str") ∨ (∃ k, d = .list k ∧ t = "list") ∨ (∃ k, d = .tuple k ∧ t = "tuple") ∨ (∃ k, d = .dict k ∧ t = "dict"))) := by
    cases h with
    | non => exact ⟨"NoneType", .base .non, .inl ⟨rfl, rfl⟩⟩
    | bl k => exact ⟨"bool", .base (.bl k), .inr (.inl ⟨k, rfl, rfl⟩)⟩
    | int k => exact ⟨"int", .base (.int k), .inr (.inr (.inl ⟨k, rfl, rfl⟩))⟩
    | str k => exact ⟨"str", .base (.str k), .inr (.inr (.inr (.inl ⟨k, rfl, rfl⟩)))⟩
    | dic a _ _ _ =>
      refine ⟨"dict", ?_, .inr (.inr (.inr (.inr (.inr (.inr ⟨_, rfl, rfl⟩)))))⟩
      rcases a with a | ⟨o, a⟩
      · exact .base (.dK a)
      · exact .fDict a
    | lst a _ =>
      have a := a.sq
      refine ⟨"list", ?_, .inr (.inr (.inr (.inr (.inl ⟨_, rfl, rfl⟩))))⟩
      rcases a with (a | ⟨o, a⟩) | ⟨o, its, n, a, q, _⟩
      · exact .base (.lst a)
      · exact .base (.frz a)
      · exact .kList a q
    | tup a _ =>
      refine ⟨"tuple", ?_, .inr (.inr (.inr (.inr (.inr (.inl ⟨_, rfl, rfl⟩)))))⟩
      rcases a with (a | ⟨o, a⟩) | ⟨o, its, n, a, q, _⟩
      · exact .base (.tup a)
      · exact .fTuple a
      · exact .kTuple a q
  obtain ⟨t, h1, h2⟩ := ty
  refine ⟨t, h1, ?_⟩
  rcases h2 with ⟨rfl, rfl⟩ | ⟨k, rfl, rfl⟩ | ⟨k, rfl, rfl⟩ | ⟨k, rfl, rfl⟩ | ⟨k, rfl, rfl⟩ | ⟨k, rfl, rfl⟩ | ⟨k, rfl, rfl⟩ <;> rcases hc with rfl | rfl | rfl | rfl | rfl <;> (cases e; decide +kernel)
theorem rd_isi {x : V} {c : String} (hc : c ∈ ["int", "bool", "str", "list", "tuple"]) (h : rFl K (.isI c) [x] H Q) : rIsi K [x, .ty c] H Q := by
  obtain ⟨ds, r, h1, h2, h3⟩ := h
  obtain ⟨d, rfl, hd⟩ := dp1 h1
  obtain ⟨b, e1, e2⟩ := Option.map_eq_some_iff.mp (show (isA c d).map PyData.bool = some r from h2)
  cases e2
  obtain ⟨t, g1, g2⟩ := dp_ty hd hc e1
  exact ⟨x, .ty c, .type t, .type c, b, rfl, .ty c, g1, kit_ty g2, h3 _ rfl⟩
/-- repr of data -/
def rRepr (K : PySem.W.Frag) : List V → Hp → VK → Prop := fun vs H Q => ∃ x d, vs = [x] ∧ Dq K H x d ∧ fits d = true ∧ Q (.str d.shown) H
theorem rd_repr {x : V} (h : rFl K .repr [x] H Q) : rRepr K [x] H Q := by
  obtain ⟨ds, r, h1, h2, h3⟩ := h
  obtain ⟨d, rfl, hd⟩ := dp1 h1
  replace h2 : (if fits d = true then some (PyData.str d.shown) else none) = some r := by rw [← h2]; unfold flatSem; rfl
  by_cases c : fits d = true
  · rw [if_pos c] at h2
    cases h2
    exact ⟨x, d, rfl, hd, c, h3 _ rfl⟩
  · rw [if_neg c] at h2; cases h2
end
theorem flat_reads {K : PySem.W.Frag} {H : Hp} {h : Heap} {x : V} {d : D} {u : Value} (hd : Dq K H x d) (f : flatD d = true) (r : RelV x u) : Reads h u d [] := by
  cases hd with
  | non => cases r; exact .none
  | bl b => cases r; exact .bool b
  | int i => obtain ⟨t, rfl⟩ := r; exact .int i t
  | str z => obtain ⟨t, rfl⟩ := r; exact .str z t
  | _ => cases f
theorem pairs_flat {K : PySem.W.Frag} {H : Hp} {h : Heap} : ∀ {ks : List Key} {vs : List V} {ds : List D} {us : List (Key × Value)}, ks.length = vs.length → DqAll K H vs ds → ds.all flatD = true → KV (ks.zip vs) us → PyProof.V.PairsRead h keyD us ((ks.map keyD).zip ds) []
  | [], vs, ds, us, _, _, _, r => by cases r; exact .nil
  | k :: ks, [], ds, us, hl, _, _, _ => nomatch hl
  | k :: ks, v :: vs, ds, us, hl, hd, f, r => by
    cases hd with
    | cons h1 h2 =>
      rw [List.all_cons] at f
      obtain ⟨f1, f2⟩ := Bool.and_eq_true_iff.mp f
      have r' : KV ((k, v) :: ks.zip vs) us := r
      unfold KV at r'
      cases r' with
      | @cons p q ps qs a b =>
        obtain ⟨q1, q2⟩ := q
        obtain ⟨a1, a2⟩ := a
        cases a1
        exact PyProof.V.PairsRead.cons (as := []) (bs := []) (flat_reads h1 f1 a2) (pairs_flat (Nat.succ.inj hl) h2 f2 b)
theorem lone_reads {X : Cx} {pins : List (Addr × Obj)} {σ : L2.St} {H : Hp} {s : Shared} (I : L2.Inv X pins σ H s) {a : Addr} {kvs : List (D × D)} (hd : Dq X.K H (.ref a) (.dict kvs)) (f : loneD (.dict kvs) = true) :
    (a == sysModules) = false ∧ Reads s.heap (.ref a) (.dict kvs) [a] := by
  cases hd with
  | @dic _ ks vs ds _ h1 h2 h3 h4 =>
    subst h4
    obtain ⟨z, hs, us, rel, o, es, ep, g1, g2, g3, g4, g5, g6⟩ := dk_rd I.hok h1
    have hl : ds.length = ks.length := by
      have := L_len h3
      omega
    have f' : ds.all flatD = true := by
      have : ∀ (ks : List Key) (ds : List D), ds.length = ks.length → (((ks.map keyD).zip ds).all fun kv => flatD kv.2) = ds.all flatD := by
        intro ks
        induction ks with
        | nil => intro ds h; cases ds with
          | nil => rfl
          | cons _ _ => cases h
        | cons k ks ih => intro ds h; cases ds with
          | nil => cases h
          | cons d ds =>
            rw [List.map_cons, List.zip_cons_cons, List.all_cons, List.all_cons, ih ds (Nat.succ.inj h)]
      rw [← this ks ds hl]
      exact f
    obtain ⟨r1, r2⟩ := PyProof.V.readsAll_of_pairs (h := s.heap) (enc := keyD) (fun k key hk => by
      rcases keyIs_shape hk with ⟨i, t, rfl, rfl⟩ | ⟨x, t, rfl, rfl⟩
      · exact .int i t
      · exact .str x t) g5 (pairs_flat (h := s.heap) h2 h3 f' rel)
    exact ⟨hs, .dict (as := []) (bs := []) g1 g2.1 g3 r1 r2⟩
/-- the model's repr at data -/
theorem call_reprD {X : Cx} (hg : X.A.guards = some []) (hu : X.A.units + 100 < cLine) : CallR X (.builtin "repr") (rRepr X.K) := by
  intro pins s σ H xs us Q I r h
  obtain ⟨x, d, rfl, hd, hf, q⟩ := h
  obtain ⟨u, rfl, ru⟩ := vals1 r
  unfold fits at hf
  simp only [Bool.and_eq_true, decide_eq_true_eq, Bool.or_eq_true, Bool.not_eq_true'] at hf
  obtain ⟨⟨⟨f1, f2⟩, f3⟩, f4⟩ := hf
  rcases f4 with f4 | f4
  · obtain ⟨as, rd⟩ := Dp.reads I d x u (hd.dp _ _ f4) ru
    have big : ∀ a, u = .ref a → wpAny (model X.prog X.w) X.A (call (.builtin "repr") [u]) (EP X pins σ Q) X.xe s := fun a e => by
      subst e
      exact repr_of_reads' rd f1 (fun z => by rw [f4] at z; cases z) hg (by omega) (fun _ _ e => e) (fun h' u tk k => ⟨.str d.shown, H, I.kept k, ⟨_, rfl⟩, q⟩) f2
    cases d with
    | int i =>
      cases hd
      obtain ⟨t, rfl⟩ := ru
      unfold PyData.shown at q
      exact PySem.P.repr_of_int (by simpa [PyData.showable] using f1) ⟨.str _, H, I.tok _, ⟨_, rfl⟩, q⟩
    | str z =>
      cases hd
      obtain ⟨t, rfl⟩ := ru
      unfold PyData.shown at q f2
      exact PySem.P.repr_of_str ⟨.str _, H, I.tok _, ⟨_, rfl⟩, q⟩ f2
    | bool b =>
      cases hd
      cases ru
      unfold PyData.shown at q
      exact PySem.P.repr_of_bool ⟨.str _, H, I.tok _, ⟨_, rfl⟩, q⟩
    | none =>
      cases hd
      cases ru
      unfold PyData.shown at q
      exact PySem.P.repr_of_none ⟨.str _, H, I.tok _, ⟨_, rfl⟩, q⟩
    | list xs => cases hd with | lst _ _ => exact big _ (by cases ru; rfl)
    | tuple xs => cases hd with | tup _ _ => exact big _ (by cases ru; rfl)
    | dict xs => unfold PyData.hasDict at f4; cases f4
  · cases d with
    | dict kvs =>
      cases hd with
      | @dic a ks vs ds _ h1 h2 h3 h4 =>
        obtain rfl : u = Value.ref a := ru
        obtain ⟨g1, g2⟩ := lone_reads I (.dic h1 h2 h3 h4) f4
        refine repr_of_reads' g2 f1 (fun _ z => ?_) hg (by omega) (fun _ _ e => e) (fun h' u tk k => ⟨.str (PyData.dict kvs).shown, H, I.kept k, ⟨_, rfl⟩, q⟩) f2
        rw [← List.mem_singleton.mp z] at g1
        rw [beq_self_eq_true] at g1
        cases g1
    | _ => cases f4

/-! #### operators whose answer holds items -/
section
variable {K : PySem.W.Frag} {σ : L2.St} {H : Hp} {Q : VK} {vs : List V} {o : Op}
/-- a new tracked tuple of shared items -/
theorem post_tup {F : Hp} {env : Env} {fo : Nat → List Addr} {l : List Addr} {p : Addr} {ws : List V} {ds : List D} {q : Bool} (fh : Same F H) (er : ER K F H σ env fo) (hp : H p = none) (hd : DqAll K F ws ds) :
    Post K σ F H l fo q env (.own (.leaf (.tuple ds))) env (.ref p) (upd F p (.tup ws)) (upd H p (.tup ws)) fo [] := by
  have np : ∀ b o, H b = some o → b ≠ p := fun b o e z => by rw [z, hp] at e; cases e
  have hs : Same H (upd H p (.tup ws)) := fun b o e => by rw [upd_ne (np b o e)]; exact e
  have fs : Same F (upd F p (.tup ws)) := fun b o e => by rw [upd_ne (np b o (fh b o e))]; exact e
  refine post_leaf er fs (fun b o e => ?_) hs (fun b o e => upd_ne (np b o e)) (.tup (SqT.of upd_same) (dps_mono fs ds ws hd))
  by_cases c : b = p
  · subst c; rw [upd_same] at e ⊢; exact e
  · rw [upd_ne c] at e ⊢; exact fh b o e
theorem rrs1 {F : Hp} {x : V} {rs : List R} {l : List Addr} (h : RRs K F H σ [x] rs l) : ∃ r, rs = [r] ∧ RR K F H σ x r l := by
  cases h with | cons a b => cases b; exact ⟨_, rfl, by rw [List.append_nil]; exact a⟩
theorem rrs2 {F : Hp} {x y : V} {rs : List R} {l : List Addr} (h : RRs K F H σ [x, y] rs l) : ∃ r s l1 l2, rs = [r, s] ∧ l = l1 ++ l2 ∧ RR K F H σ x r l1 ∧ RR K F H σ y s l2 := by
  cases h with | cons a b => cases b with | cons c d => cases d; exact ⟨_, _, _, _, rfl, by rw [List.append_nil], a, c⟩
/-- + of two ints, two texts, two lists, two tuples -/
def rCatX (K : PySem.W.Frag) : R2 := fun x y H Q => ∃ l b xs zs, x = .ref l ∧ y = .ref b ∧ SqX K H l xs ∧ SqX K H b zs ∧ xs.length + zs.length ≤ sizeLine ∧ ∀ p, H p = none → Q (.ref p) (upd H p (.lst (xs ++ zs)))
end
theorem Inv.isL {X : Cx} {pins : List (Addr × Obj)} {σ : L2.St} {H : Hp} {s : Shared} {a : Addr} {xs : List V} (I : Inv X pins σ H s) (h : SqX X.K H a xs) :
    xs.length ≤ sizeLine ∧ ∃ (its : List Value) (n : Nat), Vals xs its ∧ s.heap.get? a = some { cls := .type "list", data := .seq its.toArray n } := by
  rcases h with h | ⟨its, n, h1, h2, h3⟩
  · obtain ⟨z, its, n, r, e⟩ := h.ok I.hok
    exact ⟨z, its, n, r, e⟩
  · exact ⟨h3, its, n, h2, I.kIn a _ h1⟩
theorem op_catX {X : Cx} : OpR X (binaryOp .Add) (rCatX X.K) := by
  intro pins s σ H x y v u Q I rx ry h
  obtain ⟨l, b, xs, zs, rfl, rfl, hl, hb, hz, q⟩ := h
  cases rx
  cases ry
  obtain ⟨z1, its, n, r, e⟩ := Inv.isL I hl
  obtain ⟨z2, its2, n2, r2, e2⟩ := Inv.isL I hb
  have l1 := r.length
  have l2 := r2.length
  refine PySem.P.add_list e e2 ?_ (by rw [List.size_toArray, List.size_toArray]; omega)
  rw [show its.toArray ++ its2.toArray = (its ++ its2).toArray by simp]
  exact ⟨.ref _, _, I.lnew (t' := s.toks) (r.append r2) (by rw [List.length_append]; omega), rfl, q _ I.fresh⟩
end PyI

/-! Readings of the operators whose answers hold items, and of the methods. -/
namespace PyI
open PySem PySem.Spec PyProof.Rows L2
section
variable {K : PySem.W.Frag} {σ : L2.St} {H : Hp} {Q : VK} {vs : List V}
/-- an operator that reads shared data: what is known of its operands -/
theorem rd_add {x y : V} (h : rdO K σ .add [x, y] H Q) : rI0 (fun i j => .int (i + j)) x y H Q ∨ (∃ i j, x = .str i ∧ y = .str j ∧ i.length + j.length ≤ sizeLine ∧ Q (.str (i ++ j)) H) ∨ rCatX K x y H Q ∨ rCatA K x y H Q := by
  obtain ⟨F, env, fo, rs, l, r, env', fh, er, rr, nd, dj, e, q⟩ := h
  obtain ⟨ra, rb, l1, l2, rfl, rfl, h1, h2⟩ := rrs2 rr
  unfold opSem at e
  rw [if_neg (by decide)] at e
  simp only at e
  cases ha : ra.sh env with
  | none => rw [ha] at e; cases e
  | some da =>
    cases hb : rb.sh env with
    | none => rw [ha, hb] at e; cases da <;> cases e
    | some db =>
      rw [ha, hb] at e
      have sa := sh_rep er h1 ha
      have sb := sh_rep er h2 hb
      cases da with
      | int i =>
        cases db with
        | int j =>
          cases e
          rcases sa with sa | ⟨_, _, _, _, z, _⟩
          · rcases sb with sb | ⟨_, _, _, _, z, _⟩
            · cases sa; cases sb
              exact .inl ⟨i, j, rfl, rfl, q _ F H fo [] (post_leaf er (Same.refl F) fh (Same.refl H) (fun _ _ _ => rfl) (.int _))⟩
            · cases z
          · cases z
        | _ => cases e
      | str i =>
        cases db with
        | str j =>
          by_cases c : i.length + j.length ≤ sizeLine
          · replace e : some (R.own (OT.leaf (.str (i ++ j))), env) = some (r, env') := by simpa [c] using e
            cases e
            rcases sa with sa | ⟨_, _, _, _, z, _⟩
            · rcases sb with sb | ⟨_, _, _, _, z, _⟩
              · cases sa; cases sb
                exact .inr (.inl ⟨i, j, rfl, rfl, c, q _ F H fo [] (post_leaf er (Same.refl F) fh (Same.refl H) (fun _ _ _ => rfl) (.str _))⟩)
              · cases z
            · cases z
          · simp [c] at e
        | _ => cases e
      | list xs =>
        cases db with
        | list ys =>
          by_cases c : xs.length + ys.length ≤ sizeLine
          · replace e : some (R.own (ofList (xs ++ ys)), env) = some (r, env') := by simpa [c] using e
            cases e
            obtain ⟨a, us, rfl, g1, g2⟩ := sa.list fh
            obtain ⟨b, ws, rfl, g3, g4⟩ := sb.list fh
            refine .inr (.inr (.inl ⟨a, b, us, ws, rfl, rfl, g1, g3, by rw [dpAll_length g2, dpAll_length g4]; exact c, fun p hp => ?_⟩))
            exact q _ F _ fo [p] (post_new fh er hp (dpAll_append g2 g4))
          · simp [c] at e
        | _ => cases e
      | tuple xs =>
        cases db with
        | tuple ys =>
          by_cases c : xs.length + ys.length ≤ sizeLine
          · replace e : some (R.own (OT.leaf (.tuple (xs ++ ys))), env) = some (r, env') := by simpa [c] using e
            cases e
            obtain ⟨a, us, rfl, g1, f1, g2⟩ := sa.tup fh
            obtain ⟨b, ws, rfl, g3, f3, g4⟩ := sb.tup fh
            refine .inr (.inr (.inr ⟨a, b, us, ws, rfl, rfl, g1, g3, by rw [dpAll_length g2, dpAll_length g4]; exact c, fun z => ?_, fun _ z => ?_, fun _ _ p hp => ?_⟩))
            · subst z
              cases g2
              exact q _ F H fo [] (post_leaf er (Same.refl F) fh (Same.refl H) (fun _ _ _ => rfl) (.tup f3 g4))
            · subst z
              cases g4
              exact q _ F H fo [] (post_leaf er (Same.refl F) fh (Same.refl H) (fun _ _ _ => rfl) (.tup f1 (by rw [List.append_nil]; exact g2)))
            · exact q _ _ _ fo [] (post_tup fh er hp (dpAll_append g2 g4))
          · simp [c] at e
        | _ => cases e
      | _ => cases db <;> cases e

theorem rd_tup (h : rdO K σ .tup vs H Q) (hz : vs.length ≤ sizeLine) : vs.length ≤ sizeLine ∧ ∀ p, H p = none → Q (.ref p) (upd H p (.tup vs)) := by
  obtain ⟨F, env, fo, rs, l, r, env', fh, er, rr, nd, dj, e, q⟩ := h
  refine ⟨hz, fun p hp => ?_⟩
  unfold opSem at e
  rw [if_neg (by decide)] at e
  simp only at e
  cases ht : takes rs env with
  | none => rw [ht] at e; cases e
  | some z =>
    obtain ⟨ts, env1⟩ := z
    rw [ht] at e
    cases e
    obtain ⟨F1, fo1, l1, s1, e1, o1, n1, d1, sb, sf, len1⟩ := takes_rep fh er rr nd dj ht
    -- the fresh items are shared too
    have s2 : Step F1 H (fun a => a ∈ l1 ∨ ofF fo1 a) (frz F1 H l1) H (fun a => ofF fo1 a) := frz_step s1.fh (fun a ha => .inl ha) fun a ha => .inr ha
    have e2 : ER K (frz F1 H l1) H σ env' fo1 := e1.kept (frz_fs s1.fh) fun a o ha ho => ⟨ho, frz_out fun z => d1 a z ha⟩
    have dd : DqAll K (frz F1 H l1) vs (OT.dats ts) := ors_dat (frz_fs s1.fh) ts vs l1 o1 fun a o ha ho => by rw [frz_in ha]; exact ho
    have p3 := post_tup (q := true) (l := []) (env := env') s2.fh e2 hp dd
    refine q _ _ _ fo1 [] ⟨?_, p3.er, p3.nd, p3.dj, p3.rr, fun z => nomatch z⟩
    exact (s1.trans s2).trans ⟨p3.st.fs, p3.st.fh, fun b o hb hn => p3.st.keep b o hb fun z => z.elim (fun w => nomatch w) hn, p3.st.dom, fun a z => (p3.st.own a z).imp (fun w => w.elim (fun u => nomatch u) id) id⟩
/-- a new list of owned items -/
theorem rd_lst (h : rdO K σ .lst vs H Q) (hz : vs.length ≤ sizeLine) : vs.length ≤ sizeLine ∧ ∀ p, H p = none → Q (.ref p) (upd H p (.lst vs)) := by
  obtain ⟨F, env, fo, rs, l, r, env', fh, er, rr, nd, dj, e, q⟩ := h
  refine ⟨hz, fun p hp => ?_⟩
  unfold opSem at e
  rw [if_neg (by decide)] at e
  simp only at e
  cases ht : takes rs env with
  | none => rw [ht] at e; cases e
  | some z =>
    obtain ⟨ts, env1⟩ := z
    rw [ht] at e
    cases e
    obtain ⟨F1, fo1, l1, s1, e1, o1, n1, d1, sb, sf, len1⟩ := takes_rep fh er rr nd dj ht
    have np : ∀ b o, H b = some o → b ≠ p := fun b o e z => by rw [z, hp] at e; cases e
    have hs : Same H (upd H p (.lst vs)) := fun b o e => by rw [upd_ne (np b o e)]; exact e
    have fp : F1 p = none := s1.fh.free hp
    have pl : p ∉ l1 := fun z => by
      obtain ⟨⟨o, e⟩, _⟩ := ors_foot _ _ _ o1 p z
      rw [hp] at e; cases e
    have e2 : ER K F1 (upd H p (.lst vs)) σ env' fo1 := e1.kept (Same.refl F1) fun a o ha ho => ⟨hs a o ho, rfl⟩
    have s2 : Step F1 H (fun a => a ∈ l1 ∨ ofF fo1 a) F1 (upd H p (.lst vs)) (fun a => a ∈ p :: l1 ∨ ofF fo1 a) := ⟨Same.refl F1, s1.fh.trans hs, fun b o e _ => ⟨hs b o e, rfl⟩, fun b e => hs.free e, fun a z => by
      rcases z with z | z
      · rcases List.mem_cons.mp z with z | z
        · rw [z]; exact .inr hp
        · exact .inl (.inl z)
      · exact .inl (.inr z)⟩
    refine q _ F1 _ fo1 (p :: l1) ⟨s1.trans s2, e2, List.nodup_cons.mpr ⟨pl, n1⟩, fun a ha z => ?_, .own (.lst upd_same fp (ors_upd o1 pl)), fun z => nomatch z⟩
    rcases List.mem_cons.mp ha with w | w
    · rw [w] at z
      obtain ⟨⟨o, e⟩, _⟩ := e1.there z
      rw [hp] at e; cases e
    · exact d1 a w z
theorem rd_nil (h : rdO K σ .nil vs H Q) (hz : vs = []) : vs.length ≤ sizeLine ∧ ∀ p, H p = none → Q (.ref p) (upd H p (.lst vs)) := by
  subst hz
  obtain ⟨F, env, fo, rs, l, r, env', fh, er, rr, nd, dj, e, q⟩ := h
  cases rr
  cases e
  exact ⟨Nat.zero_le _, fun p hp => q _ F _ fo [p] (post_new fh er hp .nil)⟩
theorem atI_of {α : Type} {xs : List α} {i : Int} {k : Nat} {v : α} (h : ixOf xs.length i = some k) (hv : xs[k]? = some v) : atI xs i = some v := by
  unfold atI
  rw [show ixN xs.length i = some k from h]
  exact hv
/-- d[k] of a dict -/
def rIxD : R2 := fun x y H Q => ∃ a kvs key v, x = .ref a ∧ y = kV key ∧ Rd H a (.dK kvs) ∧ valV kvs key = some v ∧ Q v H
/-- x[y] is v -/
def Gets (K : PySem.W.Frag) (H : Hp) (x y v : V) : Prop := (∃ p xs i, x = .ref p ∧ y = .int i ∧ (SqL K H p xs ∨ SqT K H p xs) ∧ atI xs i = some v) ∨ ∃ a kvs key, x = .ref a ∧ y = kV key ∧ Rd H a (.dK kvs) ∧ valV kvs key = some v
theorem Gets.rd {x y v : V} (h : Gets K H x y v) (q : Q v H) : (rIxL K x y H Q ∨ rIxT K x y H Q) ∨ rIxD x y H Q := by
  rcases h with ⟨p, xs, i, h1, h2, h3, h4⟩ | ⟨a, kvs, key, h1, h2, h3, h4⟩
  · rcases h3 with h3 | h3
    · exact .inl (.inl ⟨p, xs, i, v, h1, h2, h3, h4, q⟩)
    · exact .inl (.inr ⟨p, xs, i, v, h1, h2, h3, h4, q⟩)
  · exact .inr ⟨a, kvs, key, v, h1, h2, h3, h4, q⟩
/-- an item of shared data -/
theorem gets_leaf {F : Hp} {x y : V} {d dy d' : D} (hx : Dq K F x d) (hy : Dq K H y dy) (fh : Same F H) (e : ixLeaf d dy = some d') : ∃ v, Gets K H x y v ∧ Dq K F v d' := by
  cases d with
  | list ds =>
    cases dy with
    | int i =>
      cases hy
      cases hx with
      | lst a b =>
        replace e : (match ixOf ds.length i with | some k => ds[k]? | none => none) = some d' := e
        split at e
        · rename_i k hk
          obtain ⟨v, g1, g2⟩ := dpAll_get b e
          exact ⟨v, .inl ⟨_, _, i, rfl, rfl, .inl (sqX_mono a fh).sq, atI_of (by rw [dpAll_length b]; exact hk) g1⟩, g2⟩
        · cases e
    | _ => cases e
  | tuple ds =>
    cases dy with
    | int i =>
      cases hy
      cases hx with
      | tup a b =>
        replace e : (match ixOf ds.length i with | some k => ds[k]? | none => none) = some d' := e
        split at e
        · rename_i k hk
          obtain ⟨v, g1, g2⟩ := dpAll_get b e
          exact ⟨v, .inl ⟨_, _, i, rfl, rfl, .inr (sqT_mono a fh), atI_of (by rw [dpAll_length b]; exact hk) g1⟩, g2⟩
        · cases e
    | _ => cases e
  | dict kvs =>
    unfold ixLeaf at e
    simp only at e
    split at e
    · rename_i key hk
      split at e
      · rename_i j hj
        cases hx with
        | @dic a ks vs ds _ g1 g2 g3 g4 =>
          subst g4
          have hl := dpAll_length g3
          rw [keys_zip (g2.trans hl)] at hj
          obtain ⟨kv, e1, e2⟩ := Option.map_eq_some_iff.mp e
          subst e2
          obtain ⟨v, w1, w2⟩ := dpAll_get g3 (zip_get e1)
          exact ⟨v, .inr ⟨a, ks.zip vs, key, rfl, dq_key hy hk, g1.elim (fun z => .inl (fh _ _ z)) fun ⟨o, z⟩ => .inr ⟨o, fh _ _ z⟩, valV_pos2 hj w1⟩, w2⟩
      · cases e
    · cases e
  | _ => cases e
/-- an item of a node -/
theorem gets_nod {y : V} {dy : D} {a : Addr} {g : Option (List Key)} {us : List V} {n k : Nat} {v : V} (hy : Dq K H y dy) (h1 : H a = some (hoOf g us)) (h0 : gOk g us) (hn : us.length = n) (hp : posG g n dy = some k) (hv : us[k]? = some v) : Gets K H (.ref a) y v := by
  subst hn
  cases g with
  | none =>
    cases dy with
    | int i => cases hy; exact .inl ⟨a, us, i, rfl, rfl, .inl (.inl (.inl h1)), atI_of hp hv⟩
    | _ => cases hp
  | some ks =>
    unfold posG at hp
    simp only at hp
    split at hp
    · rename_i key hk
      exact .inr ⟨a, ks.zip us, key, rfl, dq_key hy hk, .inl h1, valV_pos2 hp hv⟩
    · cases hp
theorem rd_ix {x y : V} (h : rdO K σ .ix [x, y] H Q) : (rIxL K x y H Q ∨ rIxT K x y H Q) ∨ rIxD x y H Q := by
  obtain ⟨F, env, fo, rs, l, r, env', fh, er, rr, nd, dj, e, q⟩ := h
  obtain ⟨ra, rb, l1, l2, rfl, rfl, h1, h2⟩ := rrs2 rr
  unfold opSem at e
  rw [if_neg (by decide)] at e
  simp only at e
  cases hb : rb.dat env with
  | none => rw [hb] at e; cases e
  | some dy =>
    rw [hb] at e
    have hy := dat_rep fh er h2 hb
    simp only at e
    unfold ixSem at e
    have leafCase : ∀ {d : D}, Dq K F x d → (ixLeaf d dy).map (fun d => (R.own (OT.leaf d), env)) = some (r, env') → (rIxL K x y H Q ∨ rIxT K x y H Q) ∨ rIxD x y H Q := fun hd e => by
      obtain ⟨d', e1, e2⟩ := Option.map_eq_some_iff.mp e
      cases e2
      obtain ⟨v, g1, g2⟩ := gets_leaf hd hy fh e1
      exact g1.rd (q v F H fo [] (post_leaf er (Same.refl F) fh (Same.refl H) (fun _ _ _ => rfl) g2))
    cases h1 with
    | own o1 =>
      cases o1 with
      | leaf d1 => exact leafCase d1 e
      | @nod a g us ts m g1 g0 g2 g3 =>
        simp only at e
        split at e
        · rename_i k hk
          split at e
          · rename_i d ht
            cases e
            obtain ⟨v, m', w1, w2, _⟩ := ors_get g3 ht
            cases w2 with
            | leaf w2 => exact (gets_nod hy g1 g0 (ors_length g3) hk w1).rd (q v F H fo [] (post_leaf er (Same.refl F) fh (Same.refl H) (fun _ _ _ => rfl) w2))
          · cases e
        · cases e
    | @al va p w =>
      simp only at e
      split at e
      · rename_i g ts hl
        obtain ⟨m, o1, hm⟩ := look_rep er w hl
        cases o1 with
        | @nod a _ us _ m g1 g0 g2 g3 =>
          split at e
          · rename_i k hk
            split at e
            · rename_i d ht
              cases e
              obtain ⟨v, m', w1, w2, _⟩ := ors_get g3 ht
              cases w2 with
              | leaf w2 => exact (gets_nod hy g1 g0 (ors_length g3) hk w1).rd (q v F H fo [] (post_leaf er (Same.refl F) fh (Same.refl H) (fun _ _ _ => rfl) w2))
            · rename_i g' us' ht
              cases e
              obtain ⟨v, m', w1, w2, _⟩ := ors_get g3 ht
              obtain ⟨v0, z1, z2⟩ := w
              exact (gets_nod hy g1 g0 (ors_length g3) hk w1).rd (q v F H fo [] ⟨.refl fh fun b z => z.elim (fun y => nomatch y) .inr, er, List.nodup_nil, (fun _ z => nomatch z), .al ⟨v0, z1, walk_snoc p v0 _ v a g us k z2 rfl g1 g0 w1⟩, fun _ => ⟨rfl, rfl, Same.refl H⟩⟩)
            · cases e
          · cases e
      · rename_i d hl
        obtain ⟨m, o1, hm⟩ := look_rep er w hl
        cases o1 with
        | leaf d1 => exact leafCase d1 e
      · cases e
theorem rd_tuple {x : V} (h : rdO K σ .tuple [x] H Q) : ∃ p ys, [x] = [.ref p] ∧ ((SqL K H p ys ∧ ∀ l, H l = none → Q (.ref l) (upd H l (.tup ys))) ∨ (SqT K H p ys ∧ Q (.ref p) H)) := by
  obtain ⟨F, env, fo, rs, l, r, env', fh, er, rr, nd, dj, e, q⟩ := h
  obtain ⟨ra, rfl, h1⟩ := rrs1 rr
  unfold opSem at e
  rw [if_neg (by decide)] at e
  simp only at e
  cases ha : ra.sh env with
  | none => rw [ha] at e; cases e
  | some da =>
    rw [ha] at e
    have sa := sh_rep er h1 ha
    cases da with
    | list xs =>
      cases e
      obtain ⟨a, us, rfl, g1, g2⟩ := sa.list fh
      exact ⟨a, us, rfl, .inl ⟨g1.sq, fun p hp => q _ _ _ fo [] (post_tup fh er hp g2)⟩⟩
    | tuple xs =>
      cases e
      obtain ⟨a, us, rfl, g1, f1, g2⟩ := sa.tup fh
      exact ⟨a, us, rfl, .inr ⟨g1, q _ F H fo [] (post_leaf er (Same.refl F) fh (Same.refl H) (fun _ _ _ => rfl) (.tup f1 g2))⟩⟩
    | _ => cases e
theorem rd_list {x : V} (h : rdO K σ .list [x] H Q) : ∃ p ys, [x] = [.ref p] ∧ (SqL K H p ys ∨ SqT K H p ys) ∧ ∀ l, H l = none → Q (.ref l) (upd H l (.lst ys)) := by
  obtain ⟨F, env, fo, rs, l, r, env', fh, er, rr, nd, dj, e, q⟩ := h
  obtain ⟨ra, rfl, h1⟩ := rrs1 rr
  unfold opSem at e
  rw [if_neg (by decide)] at e
  simp only at e
  cases ha : ra.sh env with
  | none => rw [ha] at e; cases e
  | some da =>
    rw [ha] at e
    have sa := sh_rep er h1 ha
    cases da with
    | list xs =>
      cases e
      obtain ⟨a, us, rfl, g1, g2⟩ := sa.list fh
      exact ⟨a, us, rfl, .inl g1.sq, fun p hp => q _ F _ fo [p] (post_new fh er hp g2)⟩
    | tuple xs =>
      cases e
      obtain ⟨a, us, rfl, g1, f1, g2⟩ := sa.tup fh
      exact ⟨a, us, rfl, .inr g1, fun p hp => q _ F _ fo [p] (post_new fh er hp g2)⟩
    | _ => cases e
theorem dpAll_reverse {F : Hp} : ∀ {vs : List V} {ds : List D}, DqAll K F vs ds → DqAll K F vs.reverse ds.reverse
  | _, _, .nil => .nil
  | _, _, .cons a b => by rw [List.reverse_cons, List.reverse_cons]; exact dpAll_append (dpAll_reverse b) (.cons a .nil)
theorem rd_rev {x : V} (h : rdO K σ .rev [x] H Q) : ∃ a xs, x = .ref a ∧ (SqL K H a xs ∧ (∀ p, H p = none → Q (.ref p) (upd H p (.lst xs.reverse))) ∨ SqT K H a xs ∧ ∀ p, H p = none → Q (.ref p) (upd H p (.tup xs.reverse))) := by
  obtain ⟨F, env, fo, rs, l, r, env', fh, er, rr, nd, dj, e, q⟩ := h
  obtain ⟨ra, rfl, h1⟩ := rrs1 rr
  unfold opSem at e
  rw [if_neg (by decide)] at e
  simp only at e
  cases ha : ra.sh env with
  | none => rw [ha] at e; cases e
  | some da =>
    rw [ha] at e
    have sa := sh_rep er h1 ha
    cases da with
    | list xs =>
      cases e
      obtain ⟨a, us, rfl, g1, g2⟩ := sa.list fh
      exact ⟨a, us, rfl, .inl ⟨g1.sq, fun p hp => q _ F _ fo [p] (post_new fh er hp (dpAll_reverse g2))⟩⟩
    | tuple xs =>
      cases e
      obtain ⟨a, us, rfl, g1, f1, g2⟩ := sa.tup fh
      exact ⟨a, us, rfl, .inr ⟨g1, fun p hp => q _ _ _ fo [] (post_tup fh er hp (dpAll_reverse g2))⟩⟩
    | _ => cases e
theorem dq_int {K : PySem.W.Frag} {F : Hp} : ∀ ns : List Int, DqAll K F (ns.map V.int) (ns.map PyData.int)
  | [] => .nil
  | n :: r => .cons (.int n) (dq_int r)
theorem insI_perm (x : Int) : ∀ l : List Int, (insI x l).Perm (x :: l)
  | [] => List.Perm.refl _
  | y :: r => by
    unfold insI
    split
    · exact List.Perm.refl _
    · exact ((insI_perm x r).cons y).trans (List.Perm.swap x y r)
theorem sortI_perm : ∀ l : List Int, (sortI l).Perm l
  | [] => List.Perm.refl _
  | x :: r => (insI_perm x (sortI r)).trans ((sortI_perm r).cons x)
theorem insI_sorted (x : Int) : ∀ l : List Int, l.Pairwise (· ≤ ·) → (insI x l).Pairwise (· ≤ ·)
  | [], _ => List.pairwise_singleton _ _
  | y :: r, h => by
    obtain ⟨h1, h2⟩ := List.pairwise_cons.mp h
    unfold insI
    split
    · rename_i c
      exact List.pairwise_cons.mpr ⟨fun z hz => (List.mem_cons.mp hz).elim (fun e => by rw [e]; exact c) fun hz => Int.le_trans c (h1 z hz), h⟩
    · rename_i c
      refine List.pairwise_cons.mpr ⟨fun z hz => ?_, insI_sorted x r h2⟩
      rcases List.mem_cons.mp ((insI_perm x r).mem_iff.mp hz) with e | hz
      · rw [e]; omega
      · exact h1 z hz
theorem sortI_sorted : ∀ l : List Int, (sortI l).Pairwise (· ≤ ·)
  | [] => .nil
  | x :: r => insI_sorted x _ (sortI_sorted r)
theorem sorted_uniq : ∀ {l m : List Int}, l.Perm m → l.Pairwise (· ≤ ·) → m.Pairwise (· ≤ ·) → l = m
  | [], m, p, _, _ => (List.nil_perm.mp p).symm ▸ rfl
  | x :: l, [], p, _, _ => absurd p.length_eq (by simp)
  | x :: l, y :: m, p, h1, h2 => by
    obtain ⟨a1, a2⟩ := List.pairwise_cons.mp h1
    obtain ⟨b1, b2⟩ := List.pairwise_cons.mp h2
    have e : x = y := by
      have q1 : x ∈ y :: m := p.mem_iff.mp List.mem_cons_self
      have q2 : y ∈ x :: l := p.mem_iff.mpr List.mem_cons_self
      rcases List.mem_cons.mp q1 with z | z
      · exact z
      · rcases List.mem_cons.mp q2 with w | w
        · exact w.symm
        · have := b1 x z
          have := a1 y w
          omega
    subst e
    rw [sorted_uniq p.cons_inv a2 b2]
end
end PyI

/-! Slices and methods. -/
namespace PyI
open PySem PySem.Spec PyProof.Rows L2
section
variable {K : PySem.W.Frag} {σ : L2.St} {H : Hp} {Q : VK} {vs : List V}
def rdS (K : PySem.W.Frag) (σ : L2.St) (lo hi : Option Int) : V → Hp → VK → Prop := fun x H Q => ∃ F env fo ra l r env', Same F H ∧ ER K F H σ env fo ∧ RR K F H σ x ra l ∧ l.Nodup ∧ (∀ a ∈ l, ¬ ofF fo a) ∧ slSem ra lo hi env = some (r, env') ∧
  ∀ v F' H' fo' l', Post K σ F H l fo true env r env' v F' H' fo' l' → Q v H'
theorem rd_sl {x : V} {lo hi : Option Int} (h : rdS K σ lo hi x H Q) : rSlL K x lo hi H Q ∨ rSlA K x lo hi H Q := by
  obtain ⟨F, env, fo, ra, l, r, env', fh, er, h1, nd, dj, e, q⟩ := h
  unfold slSem at e
  cases ha : ra.sh env with
  | none => rw [ha] at e; cases e
  | some da =>
    rw [ha] at e
    have sa := sh_rep er h1 ha
    cases da with
    | list xs =>
      cases e
      obtain ⟨a, us, rfl, g1, g2⟩ := sa.list fh
      have cut : DqAll K F (cutV us lo hi) (cutD xs lo hi) := by
        unfold cutV cutD
        rw [dpAll_length g2]
        exact dpAll_take _ (dpAll_drop _ g2)
      exact .inl ⟨a, us, rfl, g1.sq, fun p hp => q _ F _ fo [p] (post_new fh er hp cut)⟩
    | tuple xs =>
      cases e
      obtain ⟨a, us, rfl, g1, f1, g2⟩ := sa.tup fh
      have cut : DqAll K F (cutV us lo hi) (cutD xs lo hi) := by
        unfold cutV cutD
        rw [dpAll_length g2]
        exact dpAll_take _ (dpAll_drop _ g2)
      refine .inr ⟨a, us, rfl, g1, fun ⟨c1, c2⟩ => ?_, fun _ p hp => q _ _ _ fo [] (post_tup fh er hp cut)⟩
      have whole : cutD xs lo hi = xs := by
        unfold cutD
        rw [← dpAll_length g2, c1, c2]
        rw [List.drop_zero, Nat.sub_zero, dpAll_length g2]
        exact List.take_length
      rw [whole] at q
      exact q _ F H fo [] (post_leaf er (Same.refl F) fh (Same.refl H) (fun _ _ _ => rfl) (.tup f1 g2))
    | _ => cases e
def rdM (K : PySem.W.Frag) (σ : L2.St) (m : Mt) : V → List V → Hp → VK → Prop := fun x vs H Q => ∃ F env fo r0 rs l r env', Same F H ∧ ER K F H σ env fo ∧ RRs K F H σ (x :: vs) (r0 :: rs) l ∧ l.Nodup ∧ (∀ a ∈ l, ¬ ofF fo a) ∧ mtSem m r0 rs env = some (r, env') ∧
  ∀ v F' H' fo' l', Post K σ F H l fo false env r env' v F' H' fo' l' → Q v H'
/-- a list rewritten: the whole step -/
theorem post_put {F : Hp} {env env' : Env} {fo fo' : Nat → List Addr} {l lx : List Addr} {a : Addr} {vs' : List V} {v : V} {d : D} (fh : Same F H) (er : ER K F H σ env fo) (e2 : ER K F (upd H a (.lst vs')) σ env' fo') (sub : ∀ b, ofF fo' b → ofF fo b ∨ b ∈ lx) (ha : ofF fo a) (hx : ∀ b ∈ lx, b ∈ l) (hd : Dq K F v d) :
    Post K σ F H l fo false env (.own (.leaf d)) env' v F (upd H a (.lst vs')) fo' [] := by
  obtain ⟨⟨o, ea⟩, fa⟩ := er.there ha
  refine ⟨⟨Same.refl F, fun b u hb => ?_, fun b u hb hn => ⟨?_, rfl⟩, fun b hb => ?_, fun b z => ?_⟩, e2, List.nodup_nil, (fun _ z => nomatch z), .own (.leaf hd), fun z => nomatch z⟩
  · have ne : b ≠ a := fun z => by rw [z, fa] at hb; cases hb
    rw [upd_ne ne]
    exact fh b u hb
  · rw [upd_ne (fun z : b = a => hn (.inr (z ▸ ha)))]
    exact hb
  · by_cases c : b = a
    · rw [c, upd_same] at hb; cases hb
    · rwa [upd_ne c] at hb
  · rcases z with z | z
    · cases z
    · exact .inl ((sub b z).elim .inr fun w => .inl (hx b w))
theorem rd_append {x y : V} (h : rdM K σ .append x [y] H Q) : rAppend x [y] H Q := by
  obtain ⟨F, env, fo, r0, rs, l, r, env', fh, er, rr, nd, dj, e, q⟩ := h
  obtain ⟨ra, rb, l1, l2, e1, el, h1, h2⟩ := rrs2 rr
  cases e1
  subst el
  cases h1 with
  | own _ => cases e
  | @al va p w =>
    unfold mtSem at e
    simp only at e
    cases ht : rb.take env with
    | none => rw [ht] at e; cases e
    | some z =>
      obtain ⟨t, env1⟩ := z
      rw [ht] at e
      simp only at e
      obtain ⟨F1, fo1, k1, s1, er1, o1, n1, d1, sb, sf, len1⟩ := take_rep fh er h2 (by simpa using nd) (fun a ha => dj a (by simpa using ha)) ht
      cases hl : env1.look va p with
      | none => rw [hl] at e; cases e
      | some t0 =>
        rw [hl] at e
        obtain ⟨ts, rfl⟩ : ∃ ts, t0 = OT.lst ts := by
          cases t0 with
          | leaf _ => cases e
          | nod g ts => cases g with
            | some _ => cases e
            | none => exact ⟨ts, rfl⟩
        · skip
          simp only at e
          by_cases c : ts.length < sizeLine
          · rw [if_pos c] at e
            obtain ⟨e2, g1, g2⟩ := Option.map_eq_some_iff.mp e
            cases g2
            obtain ⟨m, om, hm⟩ := look_rep er1 w hl
            cases om with
            | @nod a _ us _ mm u1 u0 u2 u3 =>
              replace u1 : H a = some (.lst us) := u1
              have afo : ofF fo1 a := ⟨va, hm a List.mem_cons_self⟩
              have ak : a ∉ k1 := fun z => d1 a z afo
              obtain ⟨fo2, q1, q2, q3⟩ := put_env (gg := none) (gg' := none) (vs' := us ++ [y]) (lx := k1) er1 w hl g1 trivial (fun b hb => d1 b hb) fun vs m hv _ ho hn hna hin => by
                replace hv : H a = some (.lst vs) := hv
                rw [u1] at hv; cases hv
                refine ⟨m ++ (k1 ++ []), ors_append (ors_upd ho hna) (.cons (or_upd o1 ak) .nil), fun b hb => ?_, List.nodup_append.mpr ⟨hn, by simpa using n1, fun b hb b' hb' z => ?_⟩⟩
                · rcases List.mem_append.mp hb with z | z
                  · exact .inl z
                  · exact .inr (by simpa using z)
                · subst z
                  exact d1 b (by simpa using hb') (hin b hb)
              refine ⟨a, us, y, rfl, rfl, u1, by rw [ors_length u3]; exact c, ?_⟩
              have pp := post_put (l := k1) (v := .non) (d := .none) s1.fh er1 q1 q2 q3 (fun b hb => hb) .non
              exact q .non F1 _ fo2 [] ⟨s1.trans pp.st, pp.er, pp.nd, pp.dj, pp.rr, fun z => nomatch z⟩
          · rw [if_neg c] at e; cases e
/-- a list made longer by another one, whatever that is -/
def rExtendX (K : PySem.W.Frag) : V → List V → Hp → VK → Prop := fun x vs H Q => ∃ l b xs zs, x = .ref l ∧ vs = [.ref b] ∧ H l = some (.lst xs) ∧ SqX K H b zs ∧ xs.length + zs.length ≤ sizeLine ∧ Q .non (upd H l (.lst (xs ++ zs)))
theorem mt_extendX {X : Cx} : MtM X "list.extend" (rExtendX X.K) := by
  intro pins s σ H x vs v us Q I rx rv h
  obtain ⟨l, b, xs, zs, rfl, rfl, hH, hB, hz, q⟩ := h
  cases rx
  obtain ⟨u, rfl, ru⟩ := rv.one
  cases ru
  obtain ⟨z, its, n, r, hl, e⟩ := I.lstM hH
  obtain ⟨z2, its2, n2, r2, e2⟩ := Inv.isL I hB
  have hl2 := r2.length
  have few : its.toArray.size + its2.toArray.size ≤ sizeLine := by
    simp only [List.size_toArray]
    omega
  have nolong : ¬ (!its.toArray.isEmpty && Builtin.List.listTooLong (its.toArray.size + its2.toArray.size)) = true := fun w => by
    rw [notLongL few, Bool.and_false] at w
    cases w
  have small : its.toArray.size ≤ sizeLine := by
    simp only [List.size_toArray]
    omega
  refine call_meets F.slot_list_extend ⟨_, e, rfl⟩ F.entry_list_extend (F.args_list_extend_2 _ _) (AutoSeq1.list_extend_list_list_0 l its.toArray n b its2.toArray n2 nolong small (by omega)) ⟨e, e2, .non, _, I.lset (its' := its ++ its2) hH e (by simp) (r.append r2) ?_, rfl, q⟩
  simp only [List.length_append]
  omega
theorem rd_extend {x y : V} (h : rdM K σ .extend x [y] H Q) : rExtendX K x [y] H Q := by
  obtain ⟨F, env, fo, r0, rs, l, r, env', fh, er, rr, nd, dj, e, q⟩ := h
  obtain ⟨ra, rb, l1, l2, e1, el, h1, h2⟩ := rrs2 rr
  cases e1
  subst el
  cases h1 with
  | own _ => cases e
  | @al va p w =>
    unfold mtSem at e
    simp only at e
    cases ht : rb.sh env with
    | none => rw [ht] at e; cases e
    | some d =>
      rw [ht] at e
      have sa := sh_rep er h2 ht
      cases d with
      | list ds =>
        obtain ⟨b, ws, rfl, w1, w2⟩ := sa.list fh
        simp only at e
        cases hl : env.look va p with
        | none => rw [hl] at e; cases e
        | some t0 =>
          rw [hl] at e
          obtain ⟨ts, rfl⟩ : ∃ ts, t0 = OT.lst ts := by
            cases t0 with
            | leaf _ => cases e
            | nod g ts => cases g with
              | some _ => cases e
              | none => exact ⟨ts, rfl⟩
          · skip
            simp only at e
            by_cases c : ts.length + ds.length ≤ sizeLine
            · rw [if_pos c] at e
              obtain ⟨e2, g1, g2⟩ := Option.map_eq_some_iff.mp e
              cases g2
              obtain ⟨m, om, hm⟩ := look_rep er w hl
              cases om with
              | @nod a _ us _ mm u1 u0 u2 u3 =>
                replace u1 : H a = some (.lst us) := u1
                obtain ⟨fo2, q1, q2, q3⟩ := put_env (gg := none) (gg' := none) (vs' := us ++ ws) (lx := []) er w hl g1 trivial (fun b hb => nomatch hb) fun vs m hv _ ho hn hna hin => by
                  replace hv : H a = some (.lst vs) := hv
                  rw [u1] at hv; cases hv
                  exact ⟨m ++ [], ors_append (ors_upd ho hna) (ors_of_leaves ds ws w2), fun b hb => .inl (by simpa using hb), by simpa using hn⟩
                refine ⟨a, b, us, ws, rfl, rfl, u1, w1, by rw [ors_length u3, dpAll_length w2]; exact c, ?_⟩
                exact q .non F _ fo2 [] (post_put (lx := []) (v := .non) (d := .none) fh er q1 q2 q3 (fun b hb => nomatch hb) .non)
            · rw [if_neg c] at e; cases e
      | _ => cases e
theorem rrs0 {F : Hp} {x : V} {r : R} {rs : List R} {l : List Addr} (h : RRs K F H σ [x] (r :: rs) l) : rs = [] ∧ RR K F H σ x r l := by
  obtain ⟨r', e, q⟩ := rrs1 h
  cases e
  exact ⟨rfl, q⟩
theorem rd_pop {x : V} (h : rdM K σ .pop x [] H Q) : rPop x [] H Q := by
  obtain ⟨F, env, fo, r0, rs, l, r, env', fh, er, rr, nd, dj, e, q⟩ := h
  obtain ⟨rfl, h1⟩ := rrs0 rr
  cases h1 with
  | own _ => cases e
  | @al va p w =>
    unfold mtSem at e
    simp only at e
    cases hl : env.look va p with
    | none => rw [hl] at e; cases e
    | some t0 =>
      rw [hl] at e
      obtain ⟨ts, rfl⟩ : ∃ ts, t0 = OT.lst ts := by
        cases t0 with
        | leaf _ => cases e
        | nod g ts => cases g with
          | some _ => cases e
          | none => exact ⟨ts, rfl⟩
      · skip
        simp only at e
        cases hk : ts[ts.length - 1]? with
        | none => rw [hk] at e; cases e
        | some t =>
          rw [hk] at e
          cases t with
          | nod _ _ => cases e
          | leaf d =>
            simp only at e
            obtain ⟨e2, g1, g2⟩ := Option.map_eq_some_iff.mp e
            cases g2
            obtain ⟨m, om, hm⟩ := look_rep er w hl
            cases om with
            | @nod a _ us _ mm u1 u0 u2 u3 =>
              replace u1 : H a = some (.lst us) := u1
              obtain ⟨v, m', w1, w2, _⟩ := ors_get u3 hk
              cases w2 with
              | leaf w2 =>
                obtain ⟨fo2, q1, q2, q3⟩ := put_env (gg := none) (gg' := none) (vs' := us.dropLast) (lx := []) er w hl g1 trivial (fun b hb => nomatch hb) fun vs m hv _ ho hn hna hin => by
                  replace hv : H a = some (.lst vs) := hv
                  rw [u1] at hv; cases hv
                  obtain ⟨m2, z1, z2⟩ := ors_dropLast (ors_upd (o := .lst us.dropLast) ho hna)
                  exact ⟨m2, z1, fun b hb => .inl (z2.mem hb), hn.sublist z2⟩
                refine ⟨a, us, v, rfl, rfl, u1, by rw [ors_length u3]; exact w1, ?_⟩
                exact q v F _ fo2 [] (post_put (lx := []) fh er q1 q2 q3 (fun b hb => nomatch hb) w2)
theorem rd_popAt {x y : V} (h : rdM K σ .popAt x [y] H Q) : rPopAt x [y] H Q := by
  obtain ⟨F, env, fo, r0, rs, l, r, env', fh, er, rr, nd, dj, e, q⟩ := h
  obtain ⟨ra, rb, l1, l2, e1, el, h1, h2⟩ := rrs2 rr
  cases e1
  subst el
  cases h1 with
  | own _ => cases e
  | @al va p w =>
    unfold mtSem at e
    simp only at e
    cases ht : rb.dat env with
    | none => rw [ht] at e; cases e
    | some db =>
      rw [ht] at e
      have dy := dat_rep fh er h2 ht
      cases db with
      | int i =>
        cases dy
        simp only at e
        cases hl : env.look va p with
        | none => rw [hl] at e; cases e
        | some t0 =>
          rw [hl] at e
          obtain ⟨ts, rfl⟩ : ∃ ts, t0 = OT.lst ts := by
            cases t0 with
            | leaf _ => cases e
            | nod g ts => cases g with
              | some _ => cases e
              | none => exact ⟨ts, rfl⟩
          · skip
            simp only at e
            cases hi : ixOf ts.length i with
            | none => rw [hi] at e; cases e
            | some k =>
              rw [hi] at e
              simp only at e
              cases hk : ts[k]? with
              | none => rw [hk] at e; cases e
              | some t =>
                rw [hk] at e
                cases t with
                | nod _ _ => cases e
                | leaf d =>
                  simp only at e
                  by_cases c : -(2 ^ 63) ≤ i ∧ i < 2 ^ 63
                  · rw [if_pos c] at e
                    obtain ⟨e2, g1, g2⟩ := Option.map_eq_some_iff.mp e
                    cases g2
                    obtain ⟨m, om, hm⟩ := look_rep er w hl
                    cases om with
                    | @nod a _ us _ mm u1 u0 u2 u3 =>
                      replace u1 : H a = some (.lst us) := u1
                      obtain ⟨v, m', w1, w2, _⟩ := ors_get u3 hk
                      cases w2 with
                      | leaf w2 =>
                        obtain ⟨fo2, q1, q2, q3⟩ := put_env (gg := none) (gg' := none) (vs' := us.eraseIdx k) (lx := []) er w hl g1 trivial (fun b hb => nomatch hb) fun vs m hv _ ho hn hna hin => by
                          replace hv : H a = some (.lst vs) := hv
                          rw [u1] at hv; cases hv
                          obtain ⟨m2, z1, z2⟩ := ors_eraseIdx k (ors_upd (o := .lst (us.eraseIdx k)) ho hna)
                          exact ⟨m2, z1, fun b hb => .inl (z2.mem hb), hn.sublist z2⟩
                        refine ⟨a, us, i, k, v, rfl, rfl, u1, c.1, c.2, ?_, w1, ?_⟩
                        · rw [ors_length u3]
                          exact (ixN_seq hi).1
                        · exact q v F _ fo2 [] (post_put (lx := []) fh er q1 q2 q3 (fun b hb => nomatch hb) w2)
                  · rw [if_neg c] at e; cases e
      | _ => cases e
def rIns : V → List V → Hp → VK → Prop := fun x vs H Q => ∃ (l : Addr) (xs : List V) (i : Int) (y : V), x = .ref l ∧ vs = [.int i, y] ∧ H l = some (.lst xs) ∧ xs.length < sizeLine ∧ 0 ≤ i ∧ i < 2 ^ 63 ∧
    Q .non (upd H l (.lst (xs.take i.toNat ++ [y] ++ xs.drop i.toNat)))
theorem rd_insert {x y z : V} (h : rdM K σ .insert x [y, z] H Q) : rIns x [y, z] H Q := by
  obtain ⟨F, env, fo, r0, rs, l, r, env', fh, er, rr, nd, dj, e, q⟩ := h
  cases rr with
  | cons h1 hr =>
    cases hr with
    | @cons _ rb _ _ _ _ h2 hr =>
      cases hr with
      | @cons _ rc _ _ _ _ h3 hr =>
        cases hr
        cases h1 with
        | own _ => cases e
        | @al va p w =>
          cases h3 with
          | al _ => cases e
          | own h3 =>
            cases h3 with
            | nod _ _ _ _ => cases e
            | leaf h3 =>
              unfold mtSem at e
              simp only at e
              cases ht : rb.dat env with
              | none => rw [ht] at e; cases e
              | some db =>
                rw [ht] at e
                have dy := dat_rep fh er h2 ht
                cases db with
                | int i =>
                  cases dy
                  simp only at e
                  cases hl : env.look va p with
                  | none => rw [hl] at e; cases e
                  | some t0 =>
                    rw [hl] at e
                    obtain ⟨ts, rfl⟩ : ∃ ts, t0 = OT.lst ts := by
                      cases t0 with
                      | leaf _ => cases e
                      | nod g ts => cases g with
                        | some _ => cases e
                        | none => exact ⟨ts, rfl⟩
                    simp only at e
                    cases hv : leaves ts with
                    | none => rw [hv] at e; cases e
                    | some ds =>
                      rw [hv] at e
                      simp only at e
                      by_cases c : ds.length < sizeLine ∧ 0 ≤ i ∧ i < 2 ^ 63
                      · rw [if_pos c] at e
                        obtain ⟨e2, g1, g2⟩ := Option.map_eq_some_iff.mp e
                        cases g2
                        obtain ⟨m, om, hm⟩ := look_rep er w hl
                        cases om with
                        | @nod a _ us _ mm u1 u0 u2 u3 =>
                          replace u1 : H a = some (.lst us) := u1
                          obtain ⟨rfl, dq, _⟩ := ors_leaves ts ds us _ hv u3
                          obtain ⟨fo2, q1, q2, q3⟩ := put_env (gg := none) (gg' := none) (vs' := us.take i.toNat ++ [z] ++ us.drop i.toNat) (lx := []) er w hl g1 trivial (fun b hb => nomatch hb) fun vs m hv _ ho hn hna hin => by
                            replace hv : H a = some (.lst vs) := hv
                            rw [u1] at hv; cases hv
                            exact ⟨[], ors_of_leaves _ _ (dpAll_append (dpAll_append (dpAll_take _ dq) (.cons h3 .nil)) (dpAll_drop _ dq)), ⟨fun b (hb : b ∈ []) => (nomatch hb), List.nodup_nil⟩⟩
                          refine ⟨a, us, i, z, rfl, rfl, u1, by rw [dpAll_length dq]; exact c.1, c.2.1, c.2.2, ?_⟩
                          exact q _ F _ fo2 [] (post_put (lx := []) fh er q1 q2 q3 (fun b hb => nomatch hb) .non)
                      · rw [if_neg c] at e; cases e
                | _ => cases e
end
end PyI

set_option maxHeartbeats 4000000
/-! sorted of tuples and lists, of whole numbers and of pairs of them. -/
namespace SrtO
open PySem PyProof.Rows Srt
section
variable {prog : Program} {w : World} {A : Around} {E : Value → Shared → Prop} {s : Shared}
/-- the state behind a collected sequence -/
abbrev afterC (s : Shared) (vs : List Value) : Shared := { s with heap := (s.heap.push (seqObj "list" #[] 0)).update s.heap.objs.size (Obj.mapSeq (· ++ vs.toArray)) }
theorem collect_tupX {l : Addr} {vs : List Value} {Q : List Value → Shared → Prop} (hl : s.heap.IsTuple l vs.toArray) (h : Q vs (afterC s vs)) (hz : vs.length ≤ sizeLine) : wpAny (model prog w) A (collect (.ref l)) Q E s := by
  obtain ⟨o, ho, hc, n, hd⟩ := id hl
  have tt : (Value.type "tuple" == Value.type "tuple") = true := by rfl
  have new := Heap.get?_push_size (o := seqObj "list" #[] 0) s.heap rfl
  unfold collect; refine wpAny_bind (wpAny_runValue (codeAny_builtin entry_proto_collect' ?_)); show wpAny _ _ (do again (.builtin "list.__iadd__" ⟨[← newList [], .ref l], []⟩)) _ _ s
  refine wpAny_bind (wpAny_newList (wpAny_pure ⟨Code.quiet_builtin _ (by decide +kernel), codeAny_builtin entry_list_iadd' ?_⟩))
  show wpAny _ _ (Builtin.List.listExtendWith (.ref s.heap.objs.size) (.ref l) (.ref s.heap.objs.size)) _ _ { s with heap := s.heap.push (seqObj "list" #[] 0) }; unfold Builtin.List.listExtendWith
  have ho2 : (s.heap.push (seqObj "list" #[] 0)).get? l = some o := Heap.get?_push_of_some _ ho
  refine wpAny_bind (wpAny_typeOf (T := "tuple") ⟨o, ho2, hc⟩ ?_); rw [if_pos (by rw [tt]; simp)]
  refine wpAny_bind (listItems_at ho2 hd (wpAny_bind (listItems_at (xs := #[]) (n := 0) new rfl ?_))); rw [if_neg (by simp)]
  refine wpAny_bind (listUpdate_at (xs := #[]) (n := 0) new rfl (wpAny_pure ?_) (Nat.zero_le _) (by show (#[] ++ vs.toArray).size ≤ sizeLine + 1; simp only [Array.size_append, List.size_toArray, List.length_nil]; omega))
  show wpAny (model prog w) A (do
      let q ← load s.heap.objs.size
      match q.data with
      | .seq xs _ => pure xs.toList
      | _ => unsupported "internal:collect") Q E (afterC s vs)
  refine wpAny_bind (wpAny_load (get?_update_seq new _) ?_); show wpAny _ _ (pure ((#[] : Array Value) ++ vs.toArray).toList) Q E _
  rw [show ((#[] : Array Value) ++ vs.toArray).toList = vs by simp]; exact wpAny_pure h
/-- a sequence that collect reads off -/
def Cols (prog : Program) (w : World) (s : Shared) (l : Addr) (vs : List Value) : Prop := ∀ (A : Around) (E : Value → Shared → Prop) (Q : List Value → Shared → Prop), Q vs (afterC s vs) → wpAny (model prog w) A (collect (.ref l)) Q E s
/-- sorted of what collect reads off -/
theorem sorted_cols {l : Addr} {vs : List Value} {ltv : Value → Value → Bool} {Q : Value → Shared → Prop} (O : Swo ltv) (hl : Cols prog w s l vs) (hz : vs.length ≤ sizeLine)
    (hS : 2 ≤ vs.length → ∀ (h₁ : Heap) (a : Addr), h₁.get? a = some (seqObj "list" vs.toArray 0) → (∀ b o, s.heap.get? b = some o → b ≠ a ∧ h₁.get? b = some o) → SortableO prog w A.in1.in1 { s with heap := h₁ } a vs ltv)
    (h : ∀ out : List Value, Srtd ltv out → Stb ltv out vs → Q (.ref (s.heap.objs.size + 1)) { s with heap := sortedAll s.heap vs out.toArray }) : wpAny (model prog w) A (call (.builtin "sorted") [.ref l]) Q E s := by
  refine Calls.call_function_entry kind_sorted plain_sorted entry_sorted (args_sorted1 _) ?_; unfold Builtin.«sorted»
  refine wpAny_bind (m := checkCount "sorted" 1 1 _) (wpAny_pure (wpAny_bind (hl _ _ _ (wpAny_bind (wpAny_newList ?_ hz)))))
  have n1 : (afterC s vs).heap.objs.size = s.heap.objs.size + 1 := by show (Heap.update _ _ _).objs.size = _; rw [Heap.size_update, size_push']
  have n2 : ((afterC s vs).heap.push (seqObj "list" vs.toArray 0)).get? (s.heap.objs.size + 1) = some (seqObj "list" vs.toArray 0) := by rw [← n1]; exact Heap.get?_push_size _ rfl
  have keep : ∀ b o, s.heap.get? b = some o → b ≠ s.heap.objs.size + 1 ∧ ((afterC s vs).heap.push (seqObj "list" vs.toArray 0)).get? b = some o := fun b o q => by
    have lt := Heap.lt_size q
    refine ⟨Nat.ne_of_lt (Nat.lt_succ_of_lt lt), Heap.get?_push_of_some _ ?_⟩; show (Heap.update _ _ _).get? b = _; rw [Heap.get?_update_ne _ _ _ _ (Nat.ne_of_lt lt)]; exact Heap.get?_push_of_some _ q
  show wpAny _ _ _ _ _ { s with heap := (afterC s vs).heap.push (seqObj "list" vs.toArray 0) }
  rw [n1]
  exact wpAny_bind (wpAny_holding (wpAny_call_entry slot_list_sort ⟨_, n2, rfl⟩ entry_list_sort (list_sort_ord O n2 hz (fun h2 => hS h2 _ _ n2 keep) fun out hs hb => ⟨_, rfl, wpAny_pure ⟨_, rfl, h out hs hb⟩⟩) (args_list_sort _)))
end
end SrtO
namespace PyI
open PySem PySem.Spec PyProof.Rows L2
def lexle (p q : Int × Int) : Prop := p.1 < q.1 ∨ (p.1 = q.1 ∧ p.2 ≤ q.2)
theorem pr_mem {Rl : V → Int × Int → Prop} : ∀ {xs : List V} {ps : List (Int × Int)}, Paired Rl xs ps → ∀ x ∈ xs, ∃ p, Rl x p
  | _, _, .cons (a := y) (b := p) h r, x, hx => by
    rcases List.mem_cons.mp hx with e | hx
    · exact ⟨p, by rw [e]; exact h⟩
    · exact pr_mem r x hx
theorem pr_maps {Rl : V → Int × Int → Prop} {k : V → Int × Int} : ∀ {xs : List V}, (∀ x ∈ xs, Rl x (k x)) → Paired Rl xs (xs.map k)
  | [], _ => .nil
  | x :: xs, h => .cons (h x List.mem_cons_self) (pr_maps fun y hy => h y (List.mem_cons_of_mem _ hy))
def rSrt (K : PySem.W.Frag) : List V → Hp → VK → Prop := fun vs H Q => ∃ (a : Addr) (xs : List V), vs = [V.ref a] ∧ (SqL K H a xs ∨ SqT K H a xs) ∧
  ((∃ ns : List Int, xs = ns.map V.int ∧ ∀ (ns' : List Int) (p : Addr), ns'.Perm ns → ns'.Pairwise (· ≤ ·) → H p = none → Q (.ref p) (upd H p (.lst (ns'.map V.int)))) ∨
   (∃ (Rl : V → Int × Int → Prop) (ps : List (Int × Int)), Paired Rl xs ps ∧ (∀ x p, Rl x p → ∃ t, x = V.ref t ∧ SqT K H t [.int p.1, .int p.2]) ∧ ∀ ys qs p, Paired Rl ys qs → qs.Perm ps → qs.Pairwise lexle → H p = none → Q (.ref p) (upd H p (.lst ys))))
theorem cols_of {X : Cx} {pins : List (Addr × Obj)} {σ : L2.St} {H : Hp} {s : Shared} {a : Addr} {xs : List V} (I : L2.Inv X pins σ H s) (h : SqL X.K H a xs ∨ SqT X.K H a xs) : ∃ its : List Value, Vals xs its ∧ xs.length ≤ sizeLine ∧ SrtO.Cols X.prog X.w s a its := by
  rcases h with h | h
  · obtain ⟨its, rv, hl, hz⟩ := I.list h
    exact ⟨its, rv, hz, fun A E Q q => collect_list hl.isList q (by rw [← rv.length]; exact hz)⟩
  · obtain ⟨its, rv, ht, hz⟩ := I.tuple h
    obtain ⟨o, e, c, n, d⟩ := ht
    exact ⟨its, rv, hz, fun A E Q q => SrtO.collect_tupX ⟨o, e, c, n, d⟩ q (by rw [← rv.length]; exact hz)⟩
section
variable {X : Cx}
theorem cr_srt : CallR X (.builtin "sorted") (rSrt X.K) := by
  intro pins s σ H vs us Q I r h
  obtain ⟨a, xs, rfl, hs, q⟩ := h
  obtain ⟨its, rv, hz, hc⟩ := cols_of I hs
  rw [Vals.ref1 r]
  rcases q with ⟨ns, rfl, q⟩ | ⟨Rl, ps, hps, hR, q⟩
  · have hi := rv.ints
    refine SrtO.sorted_cols SrtO.swo_int hc (by rw [← rv.length]; exact hz) (fun h2 h₁ a' _ _ => SrtO.ints_sortable hi h2) fun out h1 h2 => ?_
    obtain ⟨k1, k2, k3⟩ := SrtO.ints_out hi h1 h2
    obtain ⟨ep, he'⟩ := PyProof.Rows.sortedAll_at s.heap its out.toArray
    have hlen : ((out.map SrtO.iv).map V.int).length ≤ sizeLine := by rw [List.length_map, k2.length_eq]; rw [List.length_map] at hz; exact hz
    exact ⟨.ref _, upd H (s.heap.objs.size + 1) (.lst ((out.map SrtO.iv).map V.int)), I.laid (t' := s.toks) (fun _ _ => PyProof.Rows.sortedAll_old) (Nat.le_succ _) ⟨hlen, out, ep, vals_of_ints k1, he'⟩, rfl, q _ _ k2 k3 (I.hok.fresh (Nat.le_succ _))⟩
  · have ex : ∀ x : V, ∃ p : Int × Int, x ∈ xs → Rl x p := fun x => by
      by_cases c : x ∈ xs
      · obtain ⟨p, h⟩ := pr_mem hps x c
        exact ⟨p, fun _ => h⟩
      · exact ⟨(0, 0), fun z => absurd z c⟩
    let k : V → Int × Int := fun x => Classical.choose (ex x)
    have hk : ∀ x ∈ xs, Rl x (k x) := fun x => Classical.choose_spec (ex x)
    have kp : xs.map k = ps := by
      have go : ∀ (ys : List V) (ps : List (Int × Int)), (∀ y ∈ ys, y ∈ xs) → Paired Rl ys ps → ys.map k = ps := by
        intro ys
        induction ys with
        | nil => intro ps _ h; cases h; rfl
        | cons y ys ih =>
          intro ps hm h
          cases h with
          | @cons _ p _ ps h r =>
            obtain ⟨t, e, h1⟩ := hR _ _ (hk _ (hm _ List.mem_cons_self))
            obtain ⟨t', e', h2⟩ := hR _ _ h
            rw [e] at e'
            cases e'
            have e := I.tuple_inj h1 h2
            injection e with e1 e2
            injection e2 with e2 _
            injection e1 with e1
            injection e2 with e2
            rw [List.map_cons, ih ps (fun z hz => hm z (List.mem_cons_of_mem _ hz)) r, Prod.ext e1 e2]
      exact go xs ps (fun _ h => h) hps
    clear_value k
    have hx : ∀ x ∈ xs, ∃ t, x = V.ref t ∧ SqT X.K H t [.int (k x).1, .int (k x).2] := fun x hm => hR _ _ (hk x hm)
    obtain ⟨e1, e2⟩ := refs_back rv fun x m => by
      obtain ⟨t, e, _⟩ := hx x m
      exact ⟨t, e⟩
    have hp : ∀ v ∈ its, Srt.IsPair s.heap v (k (backV v)).1 (k (backV v)).2 := fun v hv => by
      obtain ⟨t, rfl⟩ := e2 v hv
      have hm : V.ref t ∈ xs := by rw [e1]; exact List.mem_map.mpr ⟨_, hv, rfl⟩
      obtain ⟨t', e, ht⟩ := hx _ hm
      cases e
      obtain ⟨its2, r2, ⟨o, ho, hcl, n, hd⟩, _⟩ := I.tuple ht
      obtain ⟨u1, u2, rfl, ri, rj⟩ := vals2 r2
      obtain ⟨t1, rfl⟩ := ri
      obtain ⟨t2, rfl⟩ := rj
      exact ⟨t, o, t1, t2, n, rfl, ho, hcl, hd⟩
    refine SrtO.sorted_cols (SrtO.swo_lex fun u => k (backV u)) hc (by rw [← rv.length]; exact hz) (fun h2 h₁ a' ha kk => ?_) fun out h1 h2 => ?_
    · refine SrtO.pairs_sortableO (s := { s with heap := h₁ }) (by omega) (fun v hm => (hp v hm).keeps fun b o e _ => (kk b o e).2) fun o e => ?_
      have e' : some o = some (seqObj "list" its.toArray 0) := e.symm.trans ha
      cases e'
      exact fun c => absurd (Value.type.inj c) (by decide)
    · have h3 : ∀ u ∈ out, ∃ a, u = Value.ref a := fun u hu => e2 u (h2.perm.mem_iff.mp hu)
      obtain ⟨ep, he'⟩ := PyProof.Rows.sortedAll_at s.heap its out.toArray
      have hb : SrtO.Stb (ltP k) (out.map backV) xs := by
        rw [e1]
        exact SrtO.Stb.map (ltP_swo k) backV h2
      refine ⟨.ref _, upd H (s.heap.objs.size + 1) (.lst (out.map backV)), I.laid (t' := s.toks) (fun _ _ => PyProof.Rows.sortedAll_old) (Nat.le_succ _) ⟨by rw [hb.len]; exact hz, out, ep, vals_back h3, he'⟩, rfl, q _ ((out.map backV).map k) _ (pr_maps fun x hm => hk x (hb.perm.mem_iff.mp hm)) (by rw [← kp]; exact hb.perm.map k) ?_ (I.hok.fresh (Nat.le_succ _))⟩
      refine List.pairwise_map.mpr ((SrtO.srtd_map h1 : SrtO.Srtd (ltP k) _).imp fun {x y} h => ?_)
      have := SrtO.lexB_no.mp h
      unfold lexle
      omega
end
/-! ### the readings -/
section
variable {K : PySem.W.Frag} {σ : L2.St} {H : Hp} {Q : VK} {vs : List V} {o : Op}
theorem lexle_anti {p q : Int × Int} (h : lexle p q) (g : lexle q p) : p = q := by
  unfold lexle at h g
  exact Prod.ext (by omega) (by omega)
theorem lexle_tot (p q : Int × Int) : lexle p q ∨ lexle q p := by unfold lexle; omega
theorem lexle_tr {p q r : Int × Int} (h : lexle p q) (g : lexle q r) : lexle p r := by unfold lexle at *; omega
theorem insP_perm (x : Int × Int) : ∀ l : List (Int × Int), (insP x l).Perm (x :: l)
  | [] => List.Perm.refl _
  | y :: r => by
    unfold insP
    split
    · exact List.Perm.refl _
    · exact ((insP_perm x r).cons y).trans (List.Perm.swap x y r)
theorem sortP_perm : ∀ l : List (Int × Int), (sortP l).Perm l
  | [] => List.Perm.refl _
  | x :: r => (insP_perm x (sortP r)).trans ((sortP_perm r).cons x)
theorem lexleB_iff {p q : Int × Int} : lexleB p q = true ↔ lexle p q := by unfold lexleB lexle; simp
theorem insP_sorted (x : Int × Int) : ∀ l : List (Int × Int), l.Pairwise lexle → (insP x l).Pairwise lexle
  | [], _ => List.pairwise_singleton _ _
  | y :: r, h => by
    obtain ⟨h1, h2⟩ := List.pairwise_cons.mp h
    unfold insP
    split
    · rename_i c
      have c := lexleB_iff.mp c
      exact List.pairwise_cons.mpr ⟨fun z hz => (List.mem_cons.mp hz).elim (fun e => by rw [e]; exact c) fun hz => lexle_tr c (h1 z hz), h⟩
    · rename_i c
      have c : lexle y x := (lexle_tot y x).elim id fun z => absurd (lexleB_iff.mpr z) c
      refine List.pairwise_cons.mpr ⟨fun z hz => ?_, insP_sorted x r h2⟩
      rcases List.mem_cons.mp ((insP_perm x r).mem_iff.mp hz) with e | hz
      · rw [e]; exact c
      · exact h1 z hz
theorem sortP_sorted : ∀ l : List (Int × Int), (sortP l).Pairwise lexle
  | [] => .nil
  | x :: r => insP_sorted x _ (sortP_sorted r)
theorem sortedP_uniq : ∀ {l m : List (Int × Int)}, l.Perm m → l.Pairwise lexle → m.Pairwise lexle → l = m
  | [], m, p, _, _ => (List.nil_perm.mp p).symm ▸ rfl
  | x :: l, [], p, _, _ => absurd p.length_eq (by simp)
  | x :: l, y :: m, p, h1, h2 => by
    obtain ⟨a1, a2⟩ := List.pairwise_cons.mp h1
    obtain ⟨b1, b2⟩ := List.pairwise_cons.mp h2
    have e : x = y := by
      have q1 : x ∈ y :: m := p.mem_iff.mp List.mem_cons_self
      have q2 : y ∈ x :: l := p.mem_iff.mpr List.mem_cons_self
      rcases List.mem_cons.mp q1 with z | z
      · exact z
      · rcases List.mem_cons.mp q2 with w | w
        · exact w.symm
        · exact lexle_anti (a1 y w) (b1 x z)
    subst e
    rw [sortedP_uniq p.cons_inv a2 b2]
/-- a pair as it lies in the shared part -/
def RlF (K : PySem.W.Frag) (F : Hp) : V → Int × Int → Prop := fun x p => ∃ t, x = V.ref t ∧ SqT K F t [.int p.1, .int p.2]
theorem pairs_rl {F : Hp} : ∀ {ds : List D} {ps : List (Int × Int)} {us : List V}, pairs? ds = some ps → DqAll K F us ds → Paired (RlF K F) us ps
  | [], ps, us, e, h => by cases e; cases h; exact .nil
  | d :: ds, ps, us, e, h => by
    unfold pairs? at e
    split at e
    · rename_i i j
      obtain ⟨qs, e1, e2⟩ := Option.map_eq_some_iff.mp e
      cases e2
      cases h with
      | cons h1 h2 =>
        refine .cons ?_ (pairs_rl e1 h2)
        cases h1 with
        | tup g1 g2 =>
          cases g2 with
          | cons k1 k2 =>
            cases k2 with
            | cons k3 k4 =>
              cases k4
              cases k1
              cases k3
              exact ⟨_, rfl, g1⟩
    · cases e
theorem rl_dq {F : Hp} : ∀ {us : List V} {ps : List (Int × Int)}, Paired (RlF K F) us ps → DqAll K F us (ps.map prD)
  | _, _, .nil => .nil
  | _, _, .cons h r => by
    obtain ⟨t, rfl, h⟩ := h
    exact .cons (.tup h (.cons (.int _) (.cons (.int _) .nil))) (rl_dq r)
theorem rd_srt {x : V} (h : rdO K σ .sorted [x] H Q) : rSrt K [x] H Q := by
  obtain ⟨F, env, fo, rs, l, r, env', fh, er, rr, nd, dj, e, q⟩ := h
  obtain ⟨ra, rfl, h1⟩ := rrs1 rr
  unfold opSem at e
  rw [if_neg (by decide)] at e
  simp only at e
  have go : ∀ {xs : List D} {us : List V} {a : Addr} {o : Option (List D)}, DqAll K F us xs → (SqL K H a us ∨ SqT K H a us) → x = .ref a → o = sortD xs → o.map (fun ds => (R.own (ofList ds), env)) = some (r, env') → rSrt K [x] H Q := by
    intro xs us a o g2 g1 hx ho e
    subst hx ho
    obtain ⟨ds, e1, e2⟩ := Option.map_eq_some_iff.mp e
    cases e2
    refine ⟨a, us, rfl, g1, ?_⟩
    unfold sortD at e1
    split at e1
    · rename_i ns en
      cases e1
      have hu := dp_ints en g2
      subst hu
      refine .inl ⟨ns, rfl, fun ns' p hp hs hn => ?_⟩
      have := sorted_uniq (hp.trans (sortI_perm ns).symm) hs (sortI_sorted ns)
      subst this
      exact q _ F _ fo [p] (post_new fh er hn (dq_int _))
    · split at e1
      · rename_i ps en
        cases e1
        refine .inr ⟨RlF K F, ps, pairs_rl en g2, fun x p ⟨t, e, h⟩ => ⟨t, e, sqT_mono h fh⟩, fun ys qs p hy hp hs hn => ?_⟩
        have := sortedP_uniq (hp.trans (sortP_perm ps).symm) hs (sortP_sorted ps)
        subst this
        exact q _ F _ fo [p] (post_new fh er hn (rl_dq hy))
      · cases e1
  cases ha : ra.sh env with
  | none => rw [ha] at e; cases e
  | some da =>
    rw [ha] at e
    have sa := sh_rep er h1 ha
    cases da with
    | list xs =>
      obtain ⟨a, us, hx, g1, g2⟩ := sa.list fh
      exact go g2 (.inl g1.sq) hx rfl e
    | tuple xs =>
      rcases sa with sa | ⟨_, _, _, _, z, _, _⟩
      · cases sa with
        | tup g1 g2 => exact go g2 (.inr (sqT_mono g1 fh)) rfl rfl e
      · cases z
    | _ => cases e
theorem rd_dic0 (h : rdO K σ .dic0 vs H Q) (hz : vs = []) : ∀ p, H p = none → Q (.ref p) (upd H p (.dK [])) := by
  subst hz
  obtain ⟨F, env, fo, rs, l, r, env', fh, er, rr, nd, dj, e, q⟩ := h
  cases rr
  cases e
  intro p hp
  have np : ∀ b o, H b = some o → b ≠ p := fun b o e z => by rw [z, hp] at e; cases e
  have hs : Same H (upd H p (.dK [])) := fun b o e => by rw [upd_ne (np b o e)]; exact e
  have fs : Same F (upd F p (.dK [])) := fun b o e => by rw [upd_ne (np b o (fh b o e))]; exact e
  refine q _ (upd F p (.dK [])) _ fo [] (post_leaf er fs (fun b o e => ?_) hs (fun b o e => upd_ne (np b o e)) (.dic (ks := []) (vs := []) (ds := []) (.inl upd_same) rfl .nil rfl))
  by_cases c : b = p
  · subst c; rw [upd_same] at e ⊢; exact e
  · rw [upd_ne c] at e ⊢; exact fh b o e
/-- a list of one's own handed to all -/
theorem rd_shr {x : V} (h : rdO K σ .shr [x] H Q) : Q x H := by
  obtain ⟨F, env, fo, rs, l, r, env', fh, er, rr, nd, dj, e, q⟩ := h
  obtain ⟨ra, rfl, h1⟩ := rrs1 rr
  unfold opSem at e
  rw [if_neg (by decide)] at e
  simp only at e
  cases ht : ra.take env with
  | none => rw [ht] at e; cases e
  | some z =>
    obtain ⟨t, env1⟩ := z
    rw [ht] at e
    cases e
    obtain ⟨F1, fo1, l1, s1, e1, o1, n1, d1, sb, sf, len1⟩ := take_rep fh er h1 nd dj ht
    have s2 : Step F1 H (fun a => a ∈ l1 ∨ ofF fo1 a) (frz F1 H l1) H (fun a => a ∈ ([] : List Addr) ∨ ofF fo1 a) := frz_step s1.fh (fun a ha => .inl ha) fun a ha => ha.elim (fun z => nomatch z) .inr
    have e2 : ER K (frz F1 H l1) H σ env' fo1 := e1.kept (frz_fs s1.fh) fun a o ha ho => ⟨ho, frz_out fun z => d1 a z ha⟩
    exact q _ _ _ fo1 [] ⟨s1.trans s2, e2, List.nodup_nil, (fun _ z => nomatch z), .own (.leaf (frz_dp s1.fh o1)), fun z => nomatch z⟩
end
end PyI

/-! t[::-1] of a list or a tuple. -/
namespace RtO
open PySem PyProof.Rows HT
section
variable {prog : Program} {w : World} {A : Around} {E : Value → Shared → Prop} {s : Shared}
theorem adj_back (n : Nat) : Builtin.Slice.sliceAdjust none none (-1) (n : Int) = ((n : Int) - 1, -1) := rfl
theorem places_back (n : Nat) : Builtin.Slice.slicePlaces ((n : Int) - 1) (-1) (-1) = n := by
  unfold Builtin.Slice.slicePlaces; rw [if_neg (by decide)]
  by_cases c : (n : Int) - 1 > -1
  · rw [if_pos c, show (- -1 : Int) = 1 by decide, Int.ediv_one]; omega
  · rw [if_neg c]; omega
theorem applied_back {sl : Addr} {vs : Value} {n : Nat} {Q : Int × Int × Nat → Shared → Prop} (hs : s.heap.IsSliceOf sl .none .none vs) (ps : IsPart vs (some (-1))) (h : Q ((n : Int) - 1, -1, n) s) :
    wpAny (model prog w) A (Builtin.Slice.sliceApplied (.ref sl) (pure (n : Int))) Q E s := by
  obtain ⟨o, g1, g2, g3⟩ := id hs; unfold Builtin.Slice.sliceApplied Builtin.Slice.sliceFields
  refine wpAny_bind (wpAny_bind (wpAny_field g1 g3 (x := .none) rfl (wpAny_bind (wpAny_field g1 g3 (x := .none) rfl (wpAny_bind (wpAny_field g1 g3 (x := vs) rfl (wpAny_pure ?_)))))))
  refine wpAny_bind (slicePart_ ps ?_); show wpAny _ _ (if ((-1 : Int) == 0) = true then _ else _) _ _ s
  rw [if_neg (by decide)]; refine wpAny_bind (slicePart_none (wpAny_bind (slicePart_none (wpAny_bind (wpAny_pure ?_)))))
  show wpAny _ _ (match Builtin.Slice.sliceAdjust none none (-1) (n : Int) with | (lo, hi) => pure (lo, (-1 : Int), Builtin.Slice.slicePlaces lo hi (-1))) _ _ s
  rw [adj_back n]; show wpAny _ _ (pure ((n : Int) - 1, (-1 : Int), Builtin.Slice.slicePlaces ((n : Int) - 1) (-1) (-1))) _ _ s
  rw [places_back]; exact wpAny_pure h
theorem fm_cg {α β : Type} {f g : α → Option β} : ∀ {l : List α}, (∀ x ∈ l, f x = g x) → l.filterMap f = l.filterMap g
  | [], _ => rfl
  | x :: r, h => by rw [List.filterMap_cons, List.filterMap_cons, h x List.mem_cons_self, fm_cg fun y hy => h y (List.mem_cons_of_mem _ hy)]
theorem pick_back (xs : Array Value) : ((List.range xs.size).filterMap fun (m : Nat) => xs[((xs.size : Int) - 1 + (m : Int) * (-1)).toNat]?).toArray = xs.toList.reverse.toArray := by
  have e : (List.range xs.size).filterMap (fun (m : Nat) => xs[((xs.size : Int) - 1 + (m : Int) * (-1)).toNat]?) = ((List.range xs.size).map fun k => xs.size - 1 - k).filterMap (xs[·]?) := by
    rw [List.filterMap_map]
    refine fm_cg fun m hm => ?_
    have : ((xs.size : Int) - 1 + (m : Int) * (-1)).toNat = xs.size - 1 - m := by have := List.mem_range.mp hm; omega
    rw [this]; rfl
  rw [e, PySem.W.krv_range, List.filterMap_reverse, PySem.W.krv_all]
theorem item_back {t sl : Addr} {items : Array Value} {vs : Value} {Q : Value → Shared → Prop} (ht : IsTup s.heap t items) (hs : s.heap.IsSliceOf sl .none .none vs) (ps : IsPart vs (some (-1)))
    (h : Q (.ref s.heap.objs.size) { s with heap := s.heap.push { cls := .type "tuple", data := .seq items.toList.reverse.toArray } }) (hsz : items.size ≤ sizeLine) : wpAny (model prog w) A (getItem (.ref t) (.ref sl)) Q E s := by
  have ok : sizeOk (.seq items.toList.reverse.toArray) := by
    show items.toList.reverse.toArray.size ≤ sizeLine
    rw [List.size_toArray, List.length_reverse, Array.length_toList]; exact hsz
  obtain ⟨o, g1, g2, g3⟩ := id hs; have hT : s.TypeIs (.ref sl) "slice" := ⟨o, g1, g2⟩
  unfold getItem; try with_reducible refine wpAny_holding ?_
  first | refine wpAny_bind (wpAny_pure ?_); skip | skip
  refine wpAny_bind (wpAny_sequenceKey ht.typeIs (by decide) ?_); refine wpAny_bind (wpAny_callSpecial?_slot (name := Str.ofString "__getitem__") ht.typeIs PyProof.Rows.slot_tuple_getitem (wpAny_call_entry PyProof.Rows.slot_tuple_getitem ht.typeIs entry_tuple_getitem ?_ (args_tuple_getitem _ _)))
  show wpAny _ _ (Builtin.Tuple.tupleItemsOf (.ref t) >>= _) _ _ s; refine wpAny_bind (tupleItemsOf_ ht ?_); refine wpAny_bind (wpAny_typeOf hT ?_)
  rw [if_pos (by decide)]; refine wpAny_bind (applied_back hs ps ?_)
  have no : ¬ ((((items.size : Int) - 1) == 0 && (-1 : Int) == 1 && items.size == items.size) = true) := by
    intro q; rw [Bool.and_eq_true, Bool.and_eq_true] at q; exact absurd q.1.2 (by decide)
  show wpAny _ _ (if (((items.size : Int) - 1) == 0 && (-1 : Int) == 1 && items.size == items.size) = true then _ else _) _ _ s
  rw [if_neg no, pick_back]; first
    | exact wpAny_bind (m := Builtin.Tuple.tupleExact _) (wpAny_newObj_type (wpAny_pure ⟨_, rfl, wpAny_pure h⟩) ok)
    | exact wpAny_bind (m := Builtin.Tuple.tupleExact _) (wpAny_newObj_type (wpAny_bind (wpAny_pure (wpAny_pure ⟨_, rfl, wpAny_pure h⟩))) ok)
    | exact wpAny_bind (wpAny_bind (m := Builtin.Tuple.tupleExact _) (wpAny_newObj_type (wpAny_pure (wpAny_pure ⟨_, rfl, wpAny_pure h⟩)) ok))
    | exact wpAny_bind (wpAny_bind (m := Builtin.Tuple.tupleExact _) (wpAny_newObj_type (wpAny_pure ⟨_, rfl, wpAny_pure h⟩) ok))
end
end RtO
namespace PyI
open PySem PySem.Spec PyProof.Rows L2
variable {X : Cx}
/-- a list or a tuple backwards -/
def RvQ (K : PySem.W.Frag) (x : V) (H1 : Hp) (Q : VK) : Prop := ∃ a xs, x = .ref a ∧ (SqL K H1 a xs ∧ (∀ p, H1 p = none → Q (.ref p) (upd H1 p (.lst xs.reverse))) ∨ SqT K H1 a xs ∧ ∀ p, H1 p = none → Q (.ref p) (upd H1 p (.tup xs.reverse)))
theorem pe_rvA {e : Expr} {te : TE} {k : Nat} {p1 p2 p3 pos : Pos} (he : PE X e te) : PE X (.Subscript e (.Slice none none (some (.UnaryOp .USub (.Constant (.int 1) k p1) p2)) p3) pos) (fun σ H Q => te σ H fun x H1 => RvQ X.K x H1 Q) := by
  refine ⟨fun pins s σ H Q I h => ?_⟩; refine Subscript_ (thn (he.run pins s σ H _ I h) fun v s1 ⟨x, H1, I1, r1, q1⟩ => ?_)
  obtain ⟨a, xs, ex, hq⟩ := q1; subst ex; cases r1
  have st : PO X (some (.UnaryOp .USub (.Constant (.int 1) k p1) p2)) (tPart (tUn (rU fun i => .int (-i)) (tC (.int 1)))) := po_some (pe_un un_neg pe_int)
  refine wpAny_Slice (thn (po_none.run pins s1 σ H1 (fun o H2 => o = none ∧ H2 = H1) I1 ⟨rfl, rfl⟩) fun vl s2 ⟨l, H2, I2, pl, el, e2⟩ => ?_); subst el e2
  refine thn (po_none.run pins s2 σ H2 (fun o H3 => o = none ∧ H3 = H2) I2 ⟨rfl, rfl⟩) fun vu s3 ⟨u, H3, I3, pu, eu, e3⟩ => ?_; subst eu e3
  refine thn (st.run pins s3 σ H3 (fun o H4 => o = some (-1) ∧ H4 = H3) I3 ⟨1, rfl, -1, rfl, rfl, rfl⟩) fun vs s4 ⟨o, H4, I4, ps, eo, e4⟩ => ?_; subst eo e4
  have I5 : Inv X pins σ H4 { s4 with heap := s4.heap.push { cls := .type "slice", data := .fields #[vl, vu, vs] } } := I4.kept (t' := s4.toks) fun b ob q => Heap.get?_push_of_some _ q
  show wpAny (model X.prog X.w) X.A (subscriptTail e (.Slice none none (some (.UnaryOp .USub (.Constant (.int 1) k p1) p2)) p3) (.ref a) (.ref s4.heap.objs.size)) (EP X pins σ Q) X.xe { s4 with heap := s4.heap.push { cls := .type "slice", data := .fields #[vl, vu, vs] } }
  rcases hq with ⟨hx, q⟩ | ⟨hx, q⟩
  · obtain ⟨its, r, ht, hz⟩ := I5.list hx; have hlen := r.length
    refine tail_any (ops := [.ref a, .ref s4.heap.objs.size]) ht.isList.typeIs (PySem.slot_list_getitem.lookup) ?_ (by with_unfolding_all rfl)
    refine wpAny_getItem_list_slice ht.isList (Heap.IsSliceOf.new _ vl vu vs) pl pu ps (by decide) ?_ (by rw [List.size_toArray]; omega)
    rw [PySem.W.krv_pick]; refine ⟨.ref _, _, I5.laid (t' := s4.toks) (o := .lst xs.reverse) (fun b ob q => Heap.get?_push_of_some _ q) (Nat.le_refl _) ?_, rfl, q _ (I5.hok.fresh (Nat.le_refl _))⟩
    exact ⟨by rw [List.length_reverse]; exact hz, _, 0, r.reverse, Heap.get?_push_size _ rfl⟩
  · obtain ⟨its, r, ht, hz⟩ := I5.tuple hx; have hlen := r.length
    cases pl; cases pu
    refine tail_any (ops := [.ref a, .ref s4.heap.objs.size]) ht.typeIs PyProof.Rows.slot_tuple_getitem.lookup ?_ (by with_unfolding_all rfl)
    refine RtO.item_back ht (Heap.IsSliceOf.new _ _ _ vs) ps ?_ (by rw [List.size_toArray]; omega)
    refine ⟨.ref _, _, I5.laid (t' := s4.toks) (o := .tup xs.reverse) (fun b ob q => Heap.get?_push_of_some _ q) (Nat.le_refl _) ?_, rfl, q _ (I5.hok.fresh (Nat.le_refl _))⟩
    exact ⟨by rw [List.length_reverse]; exact hz, _, r.reverse, IsTup.new _ _⟩
/-! ### list(range(n)), tuple(range(n)) -/
theorem rgV_eq (n : Int) : rgV 0 n = (rgI n).map V.int := by
  unfold rgV rgI
  rw [List.map_map, Int.sub_zero]
  refine List.map_congr_left fun i _ => ?_
  show V.int (0 + (i : Int)) = V.int i
  rw [Int.zero_add]
def RnQ (mk : List V → HO) (x : V) (H : Hp) (Q : VK) : Prop := ∃ n : Int, x = .int n ∧ RgOk 0 n ∧ ∀ q, H q = none → Q (.ref q) (upd H q (mk (rgV 0 n)))
theorem rgOk_of {n : Int} (h : -4611686018427387904 ≤ n ∧ n ≤ 16777216) : RgOk 0 n := ⟨by omega, by omega, by omega, by omega, by omega⟩
theorem rd_lrg {K : PySem.W.Frag} {σ : L2.St} {H : Hp} {Q : VK} {x : V} (h : rdO K σ .lrg [x] H Q) : RnQ .lst x H Q := by
  obtain ⟨F, env, fo, rs, l, r, env', fh, er, rr, nd, dj, e, q⟩ := h
  obtain ⟨ra, rfl, h1⟩ := rrs1 rr
  unfold opSem at e
  rw [if_neg (by decide)] at e
  simp only at e
  cases ha : ra.dat env with
  | none => rw [ha] at e; cases e
  | some d =>
    rw [ha] at e
    have hd := dat_rep fh er h1 ha
    cases d with
    | int n =>
      simp only at e
      split at e
      · rename_i c
        cases e
        cases hd
        exact ⟨n, rfl, rgOk_of c, fun p hp => q _ F _ fo [p] (post_new fh er hp (by rw [rgV_eq]; exact dq_int _))⟩
      · cases e
    | _ => cases e
theorem rd_trg {K : PySem.W.Frag} {σ : L2.St} {H : Hp} {Q : VK} {x : V} (h : rdO K σ .trg [x] H Q) : RnQ .tup x H Q := by
  obtain ⟨F, env, fo, rs, l, r, env', fh, er, rr, nd, dj, e, q⟩ := h
  obtain ⟨ra, rfl, h1⟩ := rrs1 rr
  unfold opSem at e
  rw [if_neg (by decide)] at e
  simp only at e
  cases ha : ra.dat env with
  | none => rw [ha] at e; cases e
  | some d =>
    rw [ha] at e
    have hd := dat_rep fh er h1 ha
    cases d with
    | int n =>
      simp only at e
      split at e
      · rename_i c
        cases e
        cases hd
        exact ⟨n, rfl, rgOk_of c, fun p hp => q _ _ _ fo [] (post_tup fh er hp (by rw [rgV_eq]; exact dq_int _))⟩
      · cases e
    | _ => cases e
end PyI

/-! Dicts by values. -/
namespace PyI
open PySem PySem.Spec PyProof.Rows L2
section
variable {X : Cx}
theorem rd_isD {pins : List (Addr × Obj)} {σ : L2.St} {H : Hp} {s : Shared} {a : Addr} {kvs : List (Key × V)} (I : L2.Inv X pins σ H s) (e : Rd H a (.dK kvs)) : s.TypeIs (.ref a) "dict" := (isD_at I (.inl ⟨kvs, e⟩)).1
theorem ix_dic (hu : X.A.units + 1 < cLine) : IxR X rIxD := by
  intro value slice pins s σ H x y v u Q I rx ry h hs
  obtain ⟨a, kvs, key, w, rfl, rfl, hq, he, q⟩ := h
  obtain rfl : v = Value.ref a := rx
  have hT := rd_isD I hq
  have hg : DGet H a (kV key) (some w) := .inl ⟨kvs, key, hq, rfl, he.symm⟩
  unfold subscriptTail; refine wpAny_bind ?_; rw [getitemInPython_of_ne hT.not_modules]; refine wpAny_bind (wpAny_specialOf hT PySem.F.slot_dict_getitem.lookup ?_)
  have done : wpAny (model X.prog X.w) X.A (subscripted slice false (.ref a) u) (fun r s3 => wpAny (model X.prog X.w) X.A (letTemporaryGo value (.ref a) r >>= fun _ => pure r) (EP X pins σ Q) X.xe s3) X.xe s := by
    rw [hs]; exact wpAny_operating (d_getItem hu I hg ry fun w' s2 I2 rw' => wpAny_bind (wpAny_letTemporaryGo (wpAny_pure ⟨w, H, I2, rw', q⟩)))
  first | exact wpAny_pure (wpAny_bind done) | exact wpAny_bind (wpAny_pure (wpAny_bind done)) | exact wpAny_bind done
theorem op_inK (hu : X.A.units + 1 < cLine) : OpR X (compareOp .In) (rInK false) := by
  intro pins s σ H x y v u Q I rx ry h
  obtain ⟨a, kvs, key, rfl, rfl, hq, q⟩ := h
  obtain rfl : u = Value.ref a := ry
  exact d_in hu I (.inl ⟨kvs, key, hq, rfl, rfl⟩) rx fun s' I' => ⟨.bl _, H, I', rfl, q⟩
theorem op_notinK (hu : X.A.units + 1 < cLine) : OpR X (compareOp .NotIn) (rInK true) := by
  intro pins s σ H x y v u Q I rx ry h
  obtain ⟨a, kvs, key, rfl, rfl, hq, q⟩ := h
  obtain rfl : u = Value.ref a := ry
  exact d_notIn hu I (.inl ⟨kvs, key, hq, rfl, rfl⟩) rx fun s' I' => ⟨.bl _, H, I', rfl, q⟩
def rLenK : List V → Hp → VK → Prop := fun vs H Q => ∃ p kvs, vs = [.ref p] ∧ Rd H p (.dK kvs) ∧ Q (.int kvs.length) H
theorem call_len_dK : CallR X (.builtin "len") rLenK := by
  intro pins s σ H vs us Q I r h
  obtain ⟨p, kvs, rfl, hq, q⟩ := h
  rw [Vals.ref1 r]
  exact d_len I hq fun t s' I' => ⟨.int _, H, I', ⟨t, rfl⟩, q⟩
end
theorem posK_none : ∀ {ks : List Key} {k : Key}, posK ks k = none → k ∉ ks
  | [], _, _ => fun h => nomatch h
  | x :: r, k, h => by
    unfold posK at h
    split at h
    · cases h
    · rename_i c
      intro hm
      rcases List.mem_cons.mp hm with e | hm
      · exact c e.symm
      · refine posK_none ?_ hm
        cases hq : posK r k with
        | none => rfl
        | some i => rw [hq] at h; cases h
theorem map_off {k : Key} {v : V} : ∀ {ks : List Key} {us : List V}, k ∉ ks → (ks.zip us).map (fun kv => if kv.1 = k then (kv.1, v) else kv) = ks.zip us
  | [], _, _ => rfl
  | x :: r, [], _ => rfl
  | x :: r, u :: us, h => by
    rw [List.zip_cons_cons, List.map_cons, map_off fun z => h (List.mem_cons_of_mem _ z), if_neg fun z : x = k => h (by rw [← z]; exact List.mem_cons_self)]
theorem map_on {k : Key} {v : V} : ∀ {ks : List Key} {us : List V} {j : Nat}, ks.Nodup → posK ks k = some j → (ks.zip us).map (fun kv => if kv.1 = k then (kv.1, v) else kv) = ks.zip (us.set j v)
  | x :: r, [], j, _, _ => by simp
  | x :: r, u :: us, j, nd, h => by
    obtain ⟨n1, n2⟩ := List.nodup_cons.mp nd
    unfold posK at h
    rw [List.zip_cons_cons, List.map_cons]
    split at h
    · rename_i c
      cases h
      rw [if_pos c, map_off (by rw [← c]; exact n1)]
      rfl
    · rename_i c
      obtain ⟨i, h1, rfl⟩ := Option.map_eq_some_iff.mp h
      rw [if_neg c, map_on n2 h1]
      rfl
theorem putK_on {k : Key} {v : V} {ks : List Key} {us : List V} {j : Nat} (hl : ks.length = us.length) (nd : ks.Nodup) (h : posK ks k = some j) : L2.putK (ks.zip us) k v = ks.zip (us.set j v) := by
  unfold L2.putK
  rw [if_pos (by rw [valV_any, ← posK_isSome hl, h]; rfl), map_on nd h]
theorem putK_end {k : Key} {v : V} {ks : List Key} {us : List V} (hl : ks.length = us.length) (h : posK ks k = none) : L2.putK (ks.zip us) k v = (ks ++ [k]).zip (us ++ [v]) := by
  rw [putK_new v (valV_none2 h), List.zip_append hl]
  rfl
/-- o[i] = v of a node -/
def rSetK : TSet := fun o i v H Q => ∃ a kvs k, o = V.ref a ∧ i = kV k ∧ H a = some (.dK kvs) ∧ kvs.length < sizeLine ∧ Q (upd H a (.dK (L2.putK kvs k v)))
def rSetN : TSet := fun o i v H Q => rSetL o i v H Q ∨ rSetK o i v H Q
theorem set_nod {X : Cx} (hu : X.A.units + 1 < cLine) : PSet X rSetN := by
  intro pins s σ H o i v ov iv u Q I ro ri rv h
  rcases h with h | ⟨a, kvs, k, rfl, rfl, h1, h2, q⟩
  · exact set_list pins s σ H o i v ov iv u Q I ro ri rv h
  · obtain rfl : ov = Value.ref a := ro
    exact d_setItem hu I (.inl ⟨kvs, k, h1, rfl, h2, rfl⟩) ri rv fun s' I' => ⟨_, I', q⟩
end PyI

/-! What ties the own syntax to the program's text. -/
namespace PyI
open PySem PySem.Spec PyProof.Rows L2

def blkScope (sc scope : Scope) : Scope := relabel scope { scope := sc, locals := 0, globals := 0, cells := [] }
def visB (sc : Scope) (x : Str) : Bool := match sc.names.lookup x with
  | some .local => true
  | some .cell => true
  | some .free => true
  | _ => false
def glB (sc : Scope) (x : Str) : Bool := match sc.names.lookup x with
  | some .globalImplicit => true
  | _ => false
def locB (top : Bool) (sc : Scope) (x : Str) : Bool := match sc.names.lookup x with
  | some .local => true
  | some .cell => top
  | _ => false
def plainNm (x : Str) : Bool := !(x == ("__debug__" : Str)) && !(x == ("__classdict__" : Str)) && !(x == ("__name__" : Str))
def notStar : Expr → Bool
  | .Starred _ _ => false
  | _ => true
def notSet : Expr → Bool
  | .Set _ _ _ => false
  | _ => true
def notSlice : Expr → Bool
  | .Slice _ _ _ _ => false
  | _ => true
def notComp : Expr → Bool
  | .ListComp _ _ _ _ => false
  | .SetComp _ _ _ _ => false
  | .DictComp _ _ _ _ _ => false
  | _ => true
def notTuple : Expr → Bool
  | .Tuple _ _ _ => false
  | _ => true
/-- an expression at which .m(..) may stand -/
def recvOk : Expr → Bool
  | .Name _ _ => true
  | .Subscript _ _ _ => true
  | _ => false
def binSh (o : Operator) : Expr → Option (List Expr)
  | .BinOp a o' b _ => if o' = o then some [a, b] else none
  | _ => none
def cmpSh (o : CmpOp) : Expr → Option (List Expr)
  | .Compare a [o'] [b] _ => if o' = o then some [a, b] else none
  | _ => none
def callSh (sc : Scope) (x : Str) (n : Nat) : Expr → Option (List Expr)
  | .Call (.Name y _) args [] _ => if y = x ∧ glB sc y = true ∧ args.length = n then some args else none
  | _ => none
def rngSh (sc : Scope) (x : Str) : Expr → Option (List Expr)
  | .Call (.Name y _) [.Call (.Name z _) [a] [] _] [] _ => if y = x ∧ z = ("range" : Str) ∧ glB sc y = true ∧ glB sc z = true ∧ notStar a = true then some [a] else none
  | _ => none
def unSh (o : UnaryOp) : Expr → Option (List Expr)
  | .UnaryOp o' a _ => if o' = o then some [a] else none
  | _ => none
def trueSh (o : CmpOp) : Expr → Option (List Expr)
  | .Compare a [o'] [.Constant (.bool true) _ _] _ => if o' = o then some [a] else none
  | _ => none
def noneSh (o : CmpOp) : Expr → Option (List Expr)
  | .Compare a [o'] [.Constant .none _ _] _ => if o' = o then some [a] else none
  | _ => none
def tupSh : Expr → Option (List Expr)
  | .Tuple es _ _ => if es.length ≤ 1000 then some es else none
  | _ => none
def lstSh : Expr → Option (List Expr)
  | .List es _ => if es.length ≤ 1000 then some es else none
  | _ => none
def nilSh : Expr → Option (List Expr)
  | .List [] _ => some []
  | _ => none
def dicSh : Expr → Option (List Expr)
  | .Dict [] [] _ => some []
  | _ => none
def plainX : Expr → Bool
  | .UnaryOp _ _ _ => false
  | .BoolOp _ _ _ => false
  | .IfExp _ _ _ _ => false
  | .Compare _ _ _ _ => false
  | _ => true
def shrSh (e : Expr) : Option (List Expr) := if plainX e = true then some [e] else none
def ixSh : Expr → Option (List Expr)
  | .Subscript a b _ => if notSlice b then some [a, b] else none
  | _ => none
def revSh : Expr → Option (List Expr)
  | .Subscript a (.Slice none none (some (.UnaryOp .USub (.Constant (.int i) _ _) _)) _) _ => if i = 1 then some [a] else none
  | _ => none
def call12 (sc : Scope) (x : Str) (e : Expr) : Option (List Expr) := match callSh sc x 1 e with
  | some l => some l
  | none => callSh sc x 2 e
def isNames : List String := ["int", "bool", "str", "list", "tuple"]
def isiSh (sc : Scope) (c : String) : Expr → Option (List Expr)
  | .Call (.Name y _) [a, .Name z _] [] _ => if y = ("isinstance" : Str) ∧ z = Str.ofString c ∧ c ∈ isNames ∧ glB sc y = true ∧ glB sc z = true then some [a] else none
  | _ => none
def inSh (o : CmpOp) : Expr → Option (List Expr)
  | .Compare a [o'] [b] _ => if o' = o ∧ behindInMarks o b = false then some [a, b] else none
  | _ => none
def shape (sc : Scope) (o : Op) (e : Expr) : Option (List Expr) := match o with
  | .add => binSh .Add e
  | .sub => binSh .Sub e
  | .mul => binSh .Mult e
  | .fdiv => binSh .FloorDiv e
  | .mod => binSh .Mod e
  | .pow => binSh .Pow e
  | .neg => unSh .USub e
  | .eq => cmpSh .Eq e
  | .ne => cmpSh .NotEq e
  | .lt => cmpSh .Lt e
  | .le => cmpSh .LtE e
  | .gt => cmpSh .Gt e
  | .ge => cmpSh .GtE e
  | .isN => noneSh .Is e
  | .notN => noneSh .IsNot e
  | .isT => trueSh .Is e
  | .notT => trueSh .IsNot e
  | .tup => tupSh e
  | .lst => lstSh e
  | .nil => nilSh e
  | .dic0 => dicSh e
  | .shr => shrSh e
  | .ix => ixSh e
  | .rev => revSh e
  | .lrg => rngSh sc "list" e
  | .trg => rngSh sc "tuple" e
  | .len => callSh sc "len" 1 e
  | .abs => callSh sc "abs" 1 e
  | .int => callSh sc "int" 1 e
  | .str => callSh sc "str" 1 e
  | .repr => callSh sc "repr" 1 e
  | .sum => callSh sc "sum" 1 e
  | .min => call12 sc "min" e
  | .max => call12 sc "max" e
  | .any => callSh sc "any" 1 e
  | .all => callSh sc "all" 1 e
  | .tuple => callSh sc "tuple" 1 e
  | .list => callSh sc "list" 1 e
  | .sorted => callSh sc "sorted" 1 e
  | .isI c => isiSh sc c e
  | .isin => inSh .In e
  | .notin => inSh .NotIn e
def cmpOf : Op → Option CmpOp
  | .lt => some .Lt
  | .le => some .LtE
  | .gt => some .Gt
  | .ge => some .GtE
  | .eq => some .Eq
  | .ne => some .NotEq
  | _ => none
def mtName : Mt → Str
  | .append => "append"
  | .extend => "extend"
  | .pop => "pop"
  | .popAt => "pop"
  | .insert => "insert"
def mtArity : Mt → Nat
  | .append => 1
  | .extend => 1
  | .pop => 0
  | .popAt => 1
  | .insert => 2
def Es.len : Es → Nat
  | .nil => 0
  | .cons _ es => es.len + 1
/-- where each parameter's value stands among the values by place and by name -/
def permOf (d : Def) (npos : Nat) (ks : List Str) : List Nat := (List.range d.n).map fun j => if j < npos then j else npos + (match d.N[j]? with
  | some x => ks.idxOf x
  | none => 0)
def kwNames : List Keyword → Option (List Str)
  | [] => some []
  | ⟨some x, _, _⟩ :: r => (kwNames r).map (x :: ·)
  | ⟨none, _, _⟩ :: _ => none
def constB : D → Const → Bool
  | .none, .none => true
  | .bool b, .bool c => b == c
  | .int i, .int j => i == j
  | .str x, .str y => decide (x = y)
  | _, _ => false

def sameB : D → D → Bool
  | .none, .none => true
  | .bool b, .bool c => b == c
  | .int i, .int j => i == j
  | .str x, .str y => decide (x = y)
  | _, _ => false
def constNm (P : List Def) (x : Str) (d : D) : Bool := P.any fun q => decide (q.name = x) && (match q.const with
  | some c => sameB c d
  | none => false)
def keyC : L2.Key → Const → Bool
  | .inl i, .int j => i == j
  | .inr x, .str y => decide (x = y)
  | _, _ => false
def keysB : List L2.Key → List (Option Expr) → Bool
  | [], [] => true
  | k :: ks, some (.Constant c _ _) :: r => keyC k c && keysB ks r
  | _, _ => false
mutual
def chkE (P : List Def) (N : List Str) (sc : Scope) : E → Expr → Bool
  | .var i, .Name x _ => decide (N[i]? = some x) && visB sc x && plainNm x
  | .c d, .Constant k _ _ => constB d k
  | .c d, .Name x _ => constNm P x d && glB sc x && plainNm x
  | .op o as, e => (match shape sc o e with
    | some es => chkEs P N sc as es
    | none => false)
  | .and a b, .BoolOp .And [x, y] _ => chkE P N sc a x && chkE P N sc b y
  | .and a b, .BoolOp .And (x :: y :: z :: r) pos => chkE P N sc a x && chkE P N sc b (.BoolOp .And (y :: z :: r) pos)
  | .or a b, .BoolOp .Or [x, y] _ => chkE P N sc a x && chkE P N sc b y
  | .or a b, .BoolOp .Or (x :: y :: z :: r) pos => chkE P N sc a x && chkE P N sc b (.BoolOp .Or (y :: z :: r) pos)
  | .not a, .UnaryOp .Not x _ => chkE P N sc a x
  | .ite c a b, .IfExp x y z _ => chkE P N sc c x && chkE P N sc a y && chkE P N sc b z
  | .chain o p a b c, .Compare x [o', p'] [y, z] _ => decide (cmpOf o = some o') && decide (cmpOf p = some p') && chkE P N sc a x && chkE P N sc b y && chkE P N sc c z
  | .sl a lo hi, .Subscript x (.Slice l h none _) _ => chkE P N sc a x && chkO P N sc lo l && chkO P N sc hi h
  | .meth m o as, .Call (.Attribute x name apos) args [] cpos => decide (name = mtName m) && decide (as.len = mtArity m) && recvOk x && (apos.endLine == cpos.line) && chkE P N sc o x && chkEs P N sc as args
  | .call f as kw perm, .Call (.Name x _) args kws _ => (match P[f]?, kwNames kws with
    | some d, some ks => decide (d.name = x) && d.const.isNone && glB sc x && plainNm x && decide ((args.length, ks) ∈ d.kws) && decide (perm = permOf d args.length ks) && chkEs P N sc as args && chkK P N sc kw kws
    | _, _ => false)
  | .comp elt t it cond own, .ListComp x [⟨tg, iter, ifs, 0⟩] scope _ => blkC N sc scope own && (t.asgs.all fun i => (own.map (·.2)).contains i) && chkIt P N sc it iter tg && notSet iter && chkT P N (blkScope sc scope) false t tg && chkC P N (blkScope sc scope) cond ifs && chkE P N (blkScope sc scope) elt x
  | .dct ks vs, .Dict keys values _ => keysB ks keys && decide ks.Nodup && decide (keys.length = values.length) && !ks.isEmpty && decide (keys.length ≤ 15) && chkEs P N sc vs values
  | _, _ => false
def chkEs (P : List Def) (N : List Str) (sc : Scope) : Es → List Expr → Bool
  | .nil, [] => true
  | .cons e es, x :: xs => chkE P N sc e x && notStar x && chkEs P N sc es xs
  | _, _ => false
def chkK (P : List Def) (N : List Str) (sc : Scope) : Es → List Keyword → Bool
  | .nil, [] => true
  | .cons e es, ⟨_, x, _⟩ :: xs => chkE P N sc e x && chkK P N sc es xs
  | _, _ => false
def chkC (P : List Def) (N : List Str) (sc : Scope) : C → List Expr → Bool
  | .non, [] => true
  | .some e, [x] => chkE P N sc e x
  | _, _ => false
def chkO (P : List Def) (N : List Str) (sc : Scope) : C → Option Expr → Bool
  | .non, none => true
  | .some e, some x => chkE P N sc e x
  | _, _ => false
def chkT (P : List Def) (N : List Str) (sc : Scope) (top : Bool) : T → Expr → Bool
  | .nm i, .Name x _ => decide (N[i]? = some x) && locB top sc x
  | .tup ts, .Tuple xs _ _ => chkTs P N sc top ts xs
  | .sub o i, .Subscript x y _ => notSlice y && chkE P N sc o x && chkE P N sc i y
  | _, _ => false
def chkTs (P : List Def) (N : List Str) (sc : Scope) (top : Bool) : Ts → List Expr → Bool
  | .nil, [] => true
  | .cons t ts, x :: xs => chkT P N sc top t x && notStar x && chkTs P N sc top ts xs
  | _, _ => false
def chkIt (P : List Def) (N : List Str) (sc : Scope) : It → Expr → Expr → Bool
  | .seq e, x, _ => chkE P N sc e x
  | .zip a b, .Call (.Name y _) [u, v] [] _, .Tuple _ _ _ => decide (y = ("zip" : Str)) && glB sc y && notStar u && notStar v && chkE P N sc a u && chkE P N sc b v
  | .enum a, .Call (.Name y _) [u] [] _, .Tuple _ _ _ => decide (y = ("enumerate" : Str)) && glB sc y && notStar u && chkE P N sc a u
  | .range as, .Call (.Name y _) args [] _, _ => decide (y = ("range" : Str)) && glB sc y && (decide (as.len = 1) || decide (as.len = 2)) && chkEs P N sc as args
  | _, _, _ => false
end
def E.isComp : E → Bool
  | .comp _ _ _ _ _ => true
  | _ => false
/-- plain local names on one line -/
def plainNames (sc : Scope) (line : Nat) : List Expr → Option (List Str)
  | [] => some []
  | .Name x pos :: r => if sc.names.lookup x = some .local ∧ pos.line = line then (plainNames sc line r).map (x :: ·) else none
  | _ => none
/-- a, b = x, y: true where the names are stored from the right, false where a tuple is made, none where neither is known -/
def swapStores (sc : Scope) (ts vs : List Expr) : Option Bool :=
  if ts.length = vs.length ∧ (ts.length = 2 ∨ ts.length = 3) then (match plainNames sc ((ts.head?.map (·.pos.line)).getD 0) ts with
    | some ns => if ns.eraseDups.length = ns.length then (if vs.all (foldedForSure 8) then some false else if vs.all (constantsAlone 8) then none else some true) else some false
    | none => some false)
  else some false
mutual
def chkS (P : List Def) (N : List Str) (sc : Scope) : S → Stmt → Bool
  | .asg i e, .Assign [.Name x p] v pos => decide (N[i]? = some x) && locB true sc x && (e.isComp || notComp v) && chkE P N sc e v
  | .par ts es, .Assign [.Tuple xs _ _] (.Tuple vs _ _) _ => chkTs P N sc true ts xs && chkEs P N sc es vs && decide (vs.length ≤ 1000) && (swapStores sc xs vs).isSome && decide (xs.length = vs.length)
  | .unp t e, .Assign [.Tuple xs _ _] v _ => chkTs P N sc true t xs && chkE P N sc e v && notTuple v
  | .put o i e, .Assign [.Subscript x y _] v _ => notSlice y && chkE P N sc o x && chkE P N sc i y && chkE P N sc e v
  | .ex e, .Expr v _ => chkE P N sc e v && notComp v
  | .ret e, .Return (some v) _ => chkE P N sc e v
  | .retN, .Return none _ => true
  | .ife c a b, .If x y z _ => chkE P N sc c x && chkSs P N sc a y && chkSs P N sc b z
  | .loop t it b, .For tg iter body [] _ => chkIt P N sc it iter tg && notSet iter && chkT P N sc true t tg && chkSs P N sc b body
  | .whl c b, .While x body [] _ => chkE P N sc c x && chkSs P N sc b body
  | .brk, .Break _ => true
  | .cont, .Continue _ => true
  | .pass, .Pass _ => true
  | _, _ => false
def chkSs (P : List Def) (N : List Str) (sc : Scope) : Ss → List Stmt → Bool
  | .nil, [] => true
  | .cons s ss, x :: xs => chkS P N sc s x && chkSs P N sc ss xs
  | .ali i v key s ss, .Assign [.Name x p] e pos :: y :: xs => decide (N[i]? = some x) && locB true sc x && notComp e && chkE P N sc (.op .ix (.cons (.var v) (.cons (.c key) .nil))) e && chkS P N sc s y && chkSs P N sc ss xs
  | _, _ => false
end
end PyI

/-! The own syntax keeps its word: expressions. -/
namespace PyI
open PySem PySem.Spec PyProof.Rows L2

/-! ### calls where no repr is under way -/
structure FnG (P : Program) (w : World) (K : PySem.W.Frag) (mg : Str → Option Value) (base : Heap) (k : Nat) (f : Addr) (fd : FuncData) (n : Nat) (sp : List V → Hp → VK → Prop) (ps : List Str) : Prop where
  len : ∀ vs H Q, sp vs H Q → vs.length = ps.length
  run : ∀ (A : Around) (outer : List PySem.Env) (s : Shared) (H : Hp) (args : Args) (us : List Value) (vs : List V) (Q : VK), A.guards = some [] → Room k A → Env0 P w K mg base A outer s H → BindsTo s fd args (ps.zip us) → Vals vs us → sp vs H Q →
    codeAny (model P w) A (.call (.ref f) args) (CR CX0 outer P w H s Q E0) s
/-- how a def's arguments are bound -/
structure DefBind (K : PySem.W.Frag) (d : Def) (fd : FuncData) : Prop where
  to : ∀ (s : Shared) (npos : Nat) (ks : List Str) (us ws vals : List Value), (npos, ks) ∈ d.kws → us.length = npos → ws.length = ks.length → pick (us ++ ws) (permOf d npos ks) = some vals → BindsTo s fd ⟨us, ks.zip ws⟩ ((d.N.take d.n).zip vals)

/-- what a call is worth: the evaluator's word -/
def spF (P : List Def) (K : PySem.W.Frag) (k f n : Nat) : List V → Hp → VK → Prop := fun vs H Q => vs.length = n ∧ ∃ F ts l t fin, Same F H ∧ ORs K F H vs ts l ∧ l.Nodup ∧ run P k f ts = some (t, fin) ∧
  ∀ v F' H' m fo', Step F H (fun a => a ∈ l) F' H' (fun a => a ∈ m ∨ ofF fo' a) → OR K F' H' v t m → m.Nodup → (∀ a ∈ m, ¬ ofF fo' a) → ER K F' H' (vs.map some) fin fo' → Q v H'

def bltNames : List Str := ["len", "abs", "int", "str", "repr", "sum", "min", "max", "any", "all", "tuple", "list", "range", "enumerate", "zip", "sorted", "isinstance", "set", "dict", "bool"]
structure CxOk (P : List Def) (k : Nat) (N : List Str) (sc : Scope) (top : Bool) (X : Cx) : Prop where
  hN : X.N = N
  nd : X.N.Nodup
  sc : X.env.scope = sc
  calm : X.calm = true
  room : Room k X.A
  gd : X.A.guards = some []
  fn : top = true → ∀ x, X.fn x = true
  xe : X.xe = fun _ _ => False
  blt : ∀ x ∈ bltNames, X.mg x = none
  cts : ∀ q ∈ P, ∀ c, q.const = some c → ∃ v u, X.mg q.name = some u ∧ RelV v u ∧ ∀ F, Dq X.K F v c
  fns : ∀ f d, P[f]? = some d → d.const = none → ∃ a fd, X.mg d.name = some (.ref a) ∧ PySem.W.keepIn X.K (.ref a) = true ∧ DefBind X.K d fd ∧ FnG X.prog X.w X.K X.mg X.base k a fd d.n (spF P X.K k f d.n) (d.N.take d.n)
abbrev ctxOf (P : List Def) (k : Nat) : Ctx := ⟨run P k, keepOf P⟩

section
variable {P : List Def} {k : Nat} {N : List Str} {sc : Scope} {top : Bool} {X : Cx}
theorem CxOk.gl (c : CxOk P k N sc top X) {x : Str} (h : glB sc x = true) : Gl X x := by
  unfold glB at h
  show X.env.scope.names.lookup x = some .globalImplicit
  rw [c.sc]
  split at h
  · assumption
  · cases h
theorem CxOk.vis (c : CxOk P k N sc top X) {x : Str} (h : visB sc x = true) : Vis X.env.scope x := by
  unfold visB at h
  show X.env.scope.names.lookup x = _ ∨ X.env.scope.names.lookup x = _ ∨ X.env.scope.names.lookup x = _
  rw [c.sc]
  split at h
  · exact .inl (by assumption)
  · exact .inr (.inl (by assumption))
  · exact .inr (.inr (by assumption))
  · cases h
theorem CxOk.loc (c : CxOk P k N sc top X) {x : Str} (h : locB top sc x = true) : Loc X.env.scope x ∧ (X.fn x = true ∨ X.env.scope.names.lookup x = some .local) := by
  unfold locB at h
  show (X.env.scope.names.lookup x = _ ∨ X.env.scope.names.lookup x = _) ∧ _
  rw [c.sc]
  split at h
  · rename_i q
    exact ⟨.inl q, .inr q⟩
  · rename_i q
    exact ⟨.inr q, .inl (c.fn h x)⟩
  · cases h
/-- a comprehension's block -/
theorem CxOk.blk (c : CxOk P k N sc top X) (s : Shared) (H : Hp) (scope : Scope) (cl : List (Str × Addr)) (C : Addr) (fp : List Addr) : CxOk P k N (blkScope sc scope) false (X.blk s H scope (compEnvC scope cl C X.env) fp) where
  hN := c.hN
  nd := c.nd
  sc := by
    show relabel scope X.env = relabel scope { scope := sc, locals := 0, globals := 0, cells := [] }
    have q : relabel scope X.env = relabel scope { scope := X.env.scope, locals := 0, globals := 0, cells := [] } := rfl
    rw [q, c.sc]
  calm := c.calm
  room := c.room
  gd := c.gd
  fn := fun z => nomatch z
  xe := rfl
  blt := c.blt
  cts := c.cts
  fns := c.fns
end

section
variable {X : Cx} {Γ : Ctx}
theorem PE.imp {e : Expr} {t t' : TE} (h : PE X e t) (q : ∀ σ H Q, t' σ H Q → t σ H Q) : PE X e t' := ⟨fun pins s σ H Q I w => h.run pins s σ H Q I (q σ H Q w)⟩
theorem PT.imp {e : Expr} {t t' : TT} (h : PT X e t) (q : ∀ σ H Q, t' σ H Q → t σ H Q) : PT X e t' := ⟨fun pins s σ H Q I w => h.run pins s σ H Q I (q σ H Q w)⟩
theorem PW.imp {e : Expr} {t t' : TT} (h : PW X e t) (q : ∀ σ H Q, t' σ H Q → t σ H Q) : PW X e t' := ⟨fun wh pins s σ H Q I w => h.run wh pins s σ H Q I (q σ H Q w)⟩
/-- operands, each with its reading -/
inductive PEs (X : Cx) (Γ : Ctx) : Es → List Expr → Prop
  | nil : PEs X Γ .nil []
  | cons {a : E} {as : Es} {e : Expr} {es : List Expr} : PE X e (TEv X.K Γ a) → notStar e = true → PEs X Γ as es → PEs X Γ (.cons a as) (e :: es)
theorem star_of {e : Expr} (h : notStar e = true) (es : List Expr) (env : PySem.Env) : starEach (e :: es) env = (false, eval e env) :: starEach es env := by
  cases e <;> first | rfl | cases h
theorem pas {as : Es} {es : List Expr} (h : PEs X Γ as es) : PA X es (fun σ H Q => seqT X.K Γ as σ H Q) := by
  induction h with
  | nil => exact pa_nil
  | cons h1 h2 _ ih => exact pa_cons h1 ih (star_of h2 _ _)
theorem starAll {as : Es} {es : List Expr} (h : PEs X Γ as es) (pos : Pos) : (backTo pos (starEach es X.env)).any (·.1) = false := by
  induction h with
  | nil => rfl
  | cons h1 h2 _ ih =>
    rw [star_of h2]
    exact ih
theorem pes1 {as : Es} {a : Expr} (h : PEs X Γ as [a]) : ∃ x, as = .cons x .nil ∧ PE X a (TEv X.K Γ x) ∧ notStar a = true := by
  cases h with | cons a b c => cases c; exact ⟨_, rfl, a, b⟩
theorem pes2 {as : Es} {a b : Expr} (h : PEs X Γ as [a, b]) : ∃ x y, as = .cons x (.cons y .nil) ∧ PE X a (TEv X.K Γ x) ∧ PE X b (TEv X.K Γ y) ∧ notStar a = true ∧ notStar b = true := by
  cases h with | cons a b c => cases c with | cons d e f => cases f; exact ⟨_, _, rfl, a, d, b, e⟩
/-- an operator's word -/
abbrev TOp (X : Cx) (Γ : Ctx) (o : Op) (as : Es) : TE := fun σ H Q => seqT X.K Γ as σ H fun vs H1 => rdO X.K σ o vs H1 Q
theorem bin_ok {op : Operator} {r : R2} {o : Op} {as : Es} {e : Expr} {es : List Expr} (hs : binSh op e = some es) (hp : PEs X Γ as es) (ho : OpR X (binaryOp op) r) (h : ∀ σ x y H Q, rdO X.K σ o [x, y] H Q → r x y H Q) : PE X e (TOp X Γ o as) := by
  unfold binSh at hs
  split at hs
  · split at hs
    · rename_i c
      cases hs
      subst c
      obtain ⟨x, y, rfl, h1, h2, _, _⟩ := pes2 hp
      exact PE.imp (pe_op ho h1 h2) fun σ H Q q => TEv.mono q fun v H1 q1 => TEv.mono q1 fun u H2 q2 => h σ v u H2 Q q2
    · cases hs
  · cases hs
theorem cmp_ok {op : CmpOp} {r : R2} {o : Op} {as : Es} {e : Expr} {es : List Expr} (hs : cmpSh op e = some es) (hp : PEs X Γ as es) (ho : OpR X (compareOp op) r) (hm : ∀ b, behindInMarks op b = false) (h : ∀ σ x y H Q, rdO X.K σ o [x, y] H Q → r x y H Q) : PE X e (TOp X Γ o as) := by
  unfold cmpSh at hs
  split at hs
  · split at hs
    · rename_i c
      cases hs
      subst c
      obtain ⟨x, y, rfl, h1, h2, _, _⟩ := pes2 hp
      exact PE.imp (pe_cmpR ho h1 h2 (hm _)) fun σ H Q q => TEv.mono q fun v H1 q1 => TEv.mono q1 fun u H2 q2 => h σ v u H2 Q q2
    · cases hs
  · cases hs
theorem un_ok {op : UnaryOp} {r : V → Hp → VK → Prop} {o : Op} {as : Es} {e : Expr} {es : List Expr} (hs : unSh op e = some es) (hp : PEs X Γ as es) (ho : UnR X (unaryOp op) r) (h : ∀ σ x H Q, rdO X.K σ o [x] H Q → r x H Q) : PE X e (TOp X Γ o as) := by
  unfold unSh at hs
  split at hs
  · split at hs
    · rename_i c
      cases hs
      subst c
      obtain ⟨x, rfl, h1, _⟩ := pes1 hp
      exact PE.imp (pe_un ho h1) fun σ H Q q => TEv.mono q fun v H1 q1 => h σ v H1 Q q1
    · cases hs
  · cases hs
theorem callSh_of {sc : Scope} {x : Str} {n : Nat} {e : Expr} {es : List Expr} (h : callSh sc x n e = some es) : ∃ p pos, e = .Call (.Name x p) es [] pos ∧ glB sc x = true ∧ es.length = n := by
  unfold callSh at h
  split at h
  · split at h
    · rename_i c
      cases h
      obtain ⟨c1, c2, c3⟩ := c
      subst c1
      exact ⟨_, _, rfl, c2, c3⟩
    · cases h
  · cases h
theorem pes_len {as : Es} {es : List Expr} (h : PEs X Γ as es) : as.len = es.length := by
  induction h with
  | nil => rfl
  | cons _ _ _ ih => show _ + 1 = _ + 1; rw [ih]
theorem seqT_len {K : PySem.W.Frag} {σ : L2.St} : ∀ {es : Es} {H : Hp} {Q : List V → Hp → Prop}, seqT K Γ es σ H Q → seqT K Γ es σ H fun vs H' => vs.length = es.len ∧ Q vs H'
  | .nil, _, _, h => ⟨rfl, h⟩
  | .cons e es, _, _, h => TEv.mono h fun v H1 h1 => seqT_mono (seqT_len h1) fun vs H2 ⟨a, b⟩ => ⟨by show _ + 1 = _ + 1; rw [a], b⟩
theorem blt_ok {x : Str} {id : String} {r : List V → Hp → VK → Prop} {o : Op} {as : Es} {es : List Expr} {p pos : Pos} (hp : PEs X Γ as es) (hl : es ≠ []) (hg : Gl X x) (hm : X.mg x = none) (hv : bootBuiltins x = some (.builtin id)) (hc : CallR X (.builtin id) r)
    (h : ∀ σ vs H Q, vs.length = es.length → rdO X.K σ o vs H Q → r vs H Q) (hn : x ≠ "__name__" := by decide) (hdb : (x == ("__debug__" : Str)) = false := by decide) : PE X (.Call (.Name x p) es [] pos) (TOp X Γ o as) := by
  have hlen := pes_len hp
  cases hp with
  | nil => exact absurd rfl hl
  | cons h1 h2 h3 =>
    exact PE.imp (pe_callB hc hg hm hv (pas (.cons h1 h2 h3)) hn hdb (star_of h2 _ _) (starAll h3 pos)) fun σ H Q q => seqT_mono (seqT_len q) fun vs H1 q1 => h σ vs H1 Q (q1.1.trans hlen) q1.2
theorem bty_ok {x : Str} {T : String} {r : List V → Hp → VK → Prop} {o : Op} {as : Es} {es : List Expr} {p pos : Pos} (hp : PEs X Γ as es) (hl : es ≠ []) (hg : Gl X x) (hm : X.mg x = none) (hv : bootBuiltins x = some (.type T)) (hc : CallR X (.type T) r)
    (h : ∀ σ vs H Q, vs.length = es.length → rdO X.K σ o vs H Q → r vs H Q) (hn : x ≠ "__name__" := by decide) (hdb : (x == ("__debug__" : Str)) = false := by decide) : PE X (.Call (.Name x p) es [] pos) (TOp X Γ o as) := by
  have hlen := pes_len hp
  cases hp with
  | nil => exact absurd rfl hl
  | cons h1 h2 h3 =>
    exact PE.imp (pe_callTy hc hg hm hv (pas (.cons h1 h2 h3)) hn hdb (star_of h2 _ _) (starAll h3 pos)) fun σ H Q q => seqT_mono (seqT_len q) fun vs H1 q1 => h σ vs H1 Q (q1.1.trans hlen) q1.2
theorem rdO_len {K : PySem.W.Frag} {σ : L2.St} {o : Op} {vs : List V} {H : Hp} {Q : VK} (h : rdO K σ o vs H Q) : ∃ rs env r env', vs.length = rs.length ∧ opSem o rs env = some (r, env') := by
  obtain ⟨F, env, fo, rs, l, r, env', fh, er, rr, nd, dj, e, q⟩ := h
  exact ⟨rs, env, r, env', rr.length, e⟩
end
end PyI

namespace PyI
open PySem PySem.Spec PyProof.Rows L2
theorem b_abs : bootBuiltins "abs" = some (.builtin "abs") := by decide +kernel
theorem b_len : bootBuiltins "len" = some (.builtin "len") := by decide +kernel
theorem b_repr : bootBuiltins "repr" = some (.builtin "repr") := by decide +kernel
theorem b_sum : bootBuiltins "sum" = some (.builtin "sum") := by decide +kernel
theorem b_min : bootBuiltins "min" = some (.builtin "min") := by decide +kernel
theorem b_max : bootBuiltins "max" = some (.builtin "max") := by decide +kernel
theorem b_any : bootBuiltins "any" = some (.builtin "any") := by decide +kernel
theorem b_all : bootBuiltins "all" = some (.builtin "all") := by decide +kernel
theorem b_sorted : bootBuiltins "sorted" = some (.builtin "sorted") := by decide +kernel
theorem b_int : bootBuiltins "int" = some (.type "int") := by decide +kernel
theorem b_str : bootBuiltins "str" = some (.type "str") := by decide +kernel
theorem b_tuple : bootBuiltins "tuple" = some (.type "tuple") := by decide +kernel
theorem b_list : bootBuiltins "list" = some (.type "list") := by decide +kernel
section
variable {P : List Def} {k : Nat} {N : List Str} {sc : Scope} {top : Bool} {X : Cx} {Γ : Ctx}
theorem one_of {α : Type} {l : List α} (h : l.length = 1) : ∃ a, l = [a] := by
  match l, h with
  | [a], _ => exact ⟨a, rfl⟩
theorem two_of {α : Type} {l : List α} (h : l.length = 2) : ∃ a b, l = [a, b] := by
  match l, h with
  | [a, b], _ => exact ⟨a, b, rfl⟩
theorem ne_of_len {α : Type} {l : List α} {n : Nat} (h : l.length = n + 1) : l ≠ [] := by
  intro z; subst z; cases h
/-- a built-in of one argument: its reading at that one -/
theorem blt1 (c : CxOk P k N sc top X) {x : Str} {id : String} {r : List V → Hp → VK → Prop} {o : Op} {as : Es} {e : Expr} {es : List Expr} (hs : callSh sc x 1 e = some es) (hp : PEs X Γ as es) (hx : x ∈ bltNames) (hv : bootBuiltins x = some (.builtin id)) (hc : CallR X (.builtin id) r)
    (h : ∀ σ v H Q, rdO X.K σ o [v] H Q → r [v] H Q) (hn : x ≠ "__name__" := by decide) (hdb : (x == ("__debug__" : Str)) = false := by decide) : PE X e (TOp X Γ o as) := by
  obtain ⟨p, pos, rfl, hg, hl⟩ := callSh_of hs
  refine blt_ok hp (ne_of_len hl) (c.gl hg) (c.blt x hx) hv hc (fun σ vs H Q hv q => ?_) hn hdb
  obtain ⟨v, rfl⟩ := one_of (hv.trans hl)
  exact h σ v H Q q
theorem blt2 (c : CxOk P k N sc top X) {x : Str} {id : String} {r : List V → Hp → VK → Prop} {o : Op} {as : Es} {e : Expr} {es : List Expr} (hs : callSh sc x 2 e = some es) (hp : PEs X Γ as es) (hx : x ∈ bltNames) (hv : bootBuiltins x = some (.builtin id)) (hc : CallR X (.builtin id) r)
    (h : ∀ σ v w H Q, rdO X.K σ o [v, w] H Q → r [v, w] H Q) (hn : x ≠ "__name__" := by decide) (hdb : (x == ("__debug__" : Str)) = false := by decide) : PE X e (TOp X Γ o as) := by
  obtain ⟨p, pos, rfl, hg, hl⟩ := callSh_of hs
  refine blt_ok hp (ne_of_len hl) (c.gl hg) (c.blt x hx) hv hc (fun σ vs H Q hv q => ?_) hn hdb
  obtain ⟨v, w, rfl⟩ := two_of (hv.trans hl)
  exact h σ v w H Q q
theorem bty1 (c : CxOk P k N sc top X) {x : Str} {T : String} {r : List V → Hp → VK → Prop} {o : Op} {as : Es} {e : Expr} {es : List Expr} (hs : callSh sc x 1 e = some es) (hp : PEs X Γ as es) (hx : x ∈ bltNames) (hv : bootBuiltins x = some (.type T)) (hc : CallR X (.type T) r)
    (h : ∀ σ v H Q, rdO X.K σ o [v] H Q → r [v] H Q) (hn : x ≠ "__name__" := by decide) (hdb : (x == ("__debug__" : Str)) = false := by decide) : PE X e (TOp X Γ o as) := by
  obtain ⟨p, pos, rfl, hg, hl⟩ := callSh_of hs
  refine bty_ok hp (ne_of_len hl) (c.gl hg) (c.blt x hx) hv hc (fun σ vs H Q hv q => ?_) hn hdb
  obtain ⟨v, rfl⟩ := one_of (hv.trans hl)
  exact h σ v H Q q
theorem rngSh_of {sc : Scope} {x : Str} {e : Expr} {es : List Expr} (h : rngSh sc x e = some es) : ∃ a p1 p2 p3 p4, e = .Call (.Name x p1) [.Call (.Name "range" p2) [a] [] p3] [] p4 ∧ es = [a] ∧ glB sc x = true ∧ glB sc "range" = true ∧ notStar a = true := by
  unfold rngSh at h
  split at h
  · split at h
    · rename_i c
      cases h
      obtain ⟨c1, c2, c3, c4, c5⟩ := c
      subst c1
      subst c2
      exact ⟨_, _, _, _, _, rfl, rfl, c3, c4, c5⟩
    · cases h
  · cases h
theorem trueSh_of {o : CmpOp} {e : Expr} {es : List Expr} (h : trueSh o e = some es) : ∃ a j p1 p2, e = .Compare a [o] [.Constant (.bool true) j p1] p2 ∧ es = [a] := by
  unfold trueSh at h
  split at h
  · split at h
    · rename_i c
      cases h
      subst c
      exact ⟨_, _, _, _, rfl, rfl⟩
    · cases h
  · cases h
theorem noneSh_of {o : CmpOp} {e : Expr} {es : List Expr} (h : noneSh o e = some es) : ∃ a j p1 p2, e = .Compare a [o] [.Constant .none j p1] p2 ∧ es = [a] := by
  unfold noneSh at h
  split at h
  · split at h
    · rename_i c
      cases h
      subst c
      exact ⟨_, _, _, _, rfl, rfl⟩
    · cases h
  · cases h
theorem tupSh_of {e : Expr} {es : List Expr} (h : tupSh e = some es) : ∃ j p, e = .Tuple es j p ∧ es.length ≤ 1000 := by
  unfold tupSh at h
  split at h
  · split at h
    · cases h
      exact ⟨_, _, rfl, by assumption⟩
    · cases h
  · cases h
theorem lstSh_of {e : Expr} {es : List Expr} (h : lstSh e = some es) : ∃ p, e = .List es p ∧ es.length ≤ 1000 := by
  unfold lstSh at h
  split at h
  · split at h
    · cases h
      exact ⟨_, rfl, by assumption⟩
    · cases h
  · cases h
theorem nilSh_of {e : Expr} {es : List Expr} (h : nilSh e = some es) : ∃ p, e = .List [] p ∧ es = [] := by
  unfold nilSh at h
  split at h
  · cases h; exact ⟨_, rfl, rfl⟩
  · cases h
theorem ixSh_of {e : Expr} {es : List Expr} (h : ixSh e = some es) : ∃ a b p, e = .Subscript a b p ∧ es = [a, b] ∧ notSlice b = true := by
  unfold ixSh at h
  split at h
  · split at h
    · cases h
      exact ⟨_, _, _, rfl, rfl, by assumption⟩
    · cases h
  · cases h
theorem revSh_of {e : Expr} {es : List Expr} (h : revSh e = some es) : ∃ a j p1 p2 p3 p4, e = .Subscript a (.Slice none none (some (.UnaryOp .USub (.Constant (.int 1) j p1) p2)) p3) p4 ∧ es = [a] := by
  unfold revSh at h
  split at h
  · split at h
    · rename_i c
      cases h
      subst c
      exact ⟨_, _, _, _, _, _, rfl, rfl⟩
    · cases h
  · cases h
theorem inSh_of {o : CmpOp} {e : Expr} {es : List Expr} (h : inSh o e = some es) : ∃ a b p, e = .Compare a [o] [b] p ∧ es = [a, b] ∧ behindInMarks o b = false := by
  unfold inSh at h
  split at h
  · split at h
    · rename_i c
      cases h
      obtain ⟨c1, c2⟩ := c
      subst c1
      exact ⟨_, _, _, rfl, rfl, c2⟩
    · cases h
  · cases h
theorem isiSh_of {c : String} {e : Expr} {es : List Expr} (h : isiSh sc c e = some es) : ∃ a p1 p2 p3, e = .Call (.Name "isinstance" p1) [a, .Name (Str.ofString c) p2] [] p3 ∧ es = [a] ∧ c ∈ isNames ∧ glB sc "isinstance" = true ∧ glB sc (Str.ofString c) = true := by
  unfold isiSh at h
  split at h
  · split at h
    · rename_i c
      cases h
      obtain ⟨c1, c2, c3, c4, c5⟩ := c
      subst c1 c2
      exact ⟨_, _, _, _, rfl, rfl, c3, c4, c5⟩
    · cases h
  · cases h
theorem b_isinst : bootBuiltins "isinstance" = some (.builtin "isinstance") := by decide +kernel
theorem b_bool : bootBuiltins "bool" = some (.type "bool") := by decide +kernel
theorem is_boot (c : CxOk P k N sc top X) {n : String} (h : n ∈ isNames) : X.mg (Str.ofString n) = none ∧ bootBuiltins (Str.ofString n) = some (.type n) ∧ Str.ofString n ≠ "__name__" ∧ (Str.ofString n == ("__debug__" : Str)) = false := by
  simp only [isNames, List.mem_cons, List.not_mem_nil, or_false] at h
  rcases h with rfl | rfl | rfl | rfl | rfl
  · exact ⟨c.blt "int" (by decide), b_int, by decide, by decide⟩
  · exact ⟨c.blt "bool" (by decide), b_bool, by decide, by decide⟩
  · exact ⟨c.blt "str" (by decide), b_str, by decide, by decide⟩
  · exact ⟨c.blt "list" (by decide), b_list, by decide, by decide⟩
  · exact ⟨c.blt "tuple" (by decide), b_tuple, by decide, by decide⟩
theorem lineK : (1000 : Nat) ≤ sizeLine := by rw [sizeLine_eq]; decide
theorem op_ok (c : CxOk P k N sc top X) (o : Op) (as : Es) (e : Expr) (es : List Expr) (hs : shape sc o e = some es) (hp : PEs X Γ as es) : PE X e (TOp X Γ o as) := by
  have nm : ∀ {op : CmpOp}, op ≠ .In → op ≠ .NotIn → ∀ b, behindInMarks op b = false := fun h1 h2 b => nobehind b h1 h2
  have hu := c.room.units
  cases o with
  | add => exact bin_ok hs hp (op_add.or (op_add_str.or (op_catX.or op_catA))) fun σ x y H Q h => rd_add h
  | sub => exact bin_ok hs hp op_sub fun σ x y H Q h => rd_sub (flat_rd rfl h)
  | mul => exact bin_ok hs hp op_mul fun σ x y H Q h => rd_mul (flat_rd rfl h)
  | fdiv => exact bin_ok hs hp op_fdivN fun σ x y H Q h => rd_fdiv (flat_rd rfl h)
  | mod => exact bin_ok hs hp op_modN fun σ x y H Q h => rd_mod (flat_rd rfl h)
  | pow => exact bin_ok hs hp op_pow fun σ x y H Q h => rd_pow (flat_rd rfl h)
  | neg => exact un_ok hs hp un_neg fun σ x H Q h => rd_neg (flat_rd rfl h)
  | eq => exact cmp_ok hs hp (op_eqD hu) (nm (by decide) (by decide)) fun σ x y H Q h => rd_eq (flat_rd rfl h)
  | ne => exact cmp_ok hs hp (op_neD hu) (nm (by decide) (by decide)) fun σ x y H Q h => rd_ne (flat_rd rfl h)
  | lt => exact cmp_ok hs hp op_lt (nm (by decide) (by decide)) fun σ x y H Q h => rd_lt (flat_rd rfl h)
  | le => exact cmp_ok hs hp op_le (nm (by decide) (by decide)) fun σ x y H Q h => rd_le (flat_rd rfl h)
  | gt => exact cmp_ok hs hp op_gt (nm (by decide) (by decide)) fun σ x y H Q h => rd_gt (flat_rd rfl h)
  | ge => exact cmp_ok hs hp op_ge (nm (by decide) (by decide)) fun σ x y H Q h => rd_ge (flat_rd rfl h)
  | isN =>
    obtain ⟨a, j, p1, p2, rfl, rfl⟩ := noneSh_of hs
    obtain ⟨x, rfl, h1, _⟩ := pes1 hp
    exact PE.imp (pe_cmpR op_isN h1 pe_non (nm (by decide) (by decide) _)) fun σ H Q q => TEv.mono q fun v H1 q1 => ⟨rfl, rd_isN (flat_rd rfl q1)⟩
  | isT =>
    obtain ⟨a, j, p1, p2, rfl, rfl⟩ := trueSh_of hs
    obtain ⟨x, rfl, h1, _⟩ := pes1 hp
    exact PE.imp (pe_cmpR op_isBl h1 pe_bl (nm (by decide) (by decide) _)) fun σ H Q q => TEv.mono q fun v H1 q1 => rd_isT (flat_rd rfl q1)
  | notT =>
    obtain ⟨a, j, p1, p2, rfl, rfl⟩ := trueSh_of hs
    obtain ⟨x, rfl, h1, _⟩ := pes1 hp
    exact PE.imp (pe_cmpR op_notBl h1 pe_bl (nm (by decide) (by decide) _)) fun σ H Q q => TEv.mono q fun v H1 q1 => rd_notT (flat_rd rfl q1)
  | notN =>
    obtain ⟨a, j, p1, p2, rfl, rfl⟩ := noneSh_of hs
    obtain ⟨x, rfl, h1, _⟩ := pes1 hp
    exact PE.imp (pe_cmpR op_notN h1 pe_non (nm (by decide) (by decide) _)) fun σ H Q q => TEv.mono q fun v H1 q1 => ⟨rfl, rd_notN (flat_rd rfl q1)⟩
  | tup =>
    obtain ⟨j, p1, rfl, hz⟩ := tupSh_of hs
    have hl := pes_len hp
    exact PE.imp (pe_tup (pas hp)) fun σ H Q q => seqT_mono (seqT_len q) fun vs H1 q1 => rd_tup q1.2 (by rw [q1.1, hl]; exact Nat.le_trans hz lineK)
  | lst =>
    obtain ⟨p1, rfl, hz⟩ := lstSh_of hs
    have hl := pes_len hp
    exact PE.imp (pe_lst (pas hp)) fun σ H Q q => seqT_mono (seqT_len q) fun vs H1 q1 => rd_lst q1.2 (by rw [q1.1, hl]; exact Nat.le_trans hz lineK)
  | nil =>
    obtain ⟨p1, rfl, rfl⟩ := nilSh_of hs
    cases hp
    exact PE.imp (pe_lst pa_nil) fun σ H Q q => rd_nil q rfl
  | ix =>
    obtain ⟨a, b, p1, rfl, rfl, hb⟩ := ixSh_of hs
    obtain ⟨x, y, rfl, h1, h2, _, _⟩ := pes2 hp
    have plain : PlainIx b := fun o i => by cases b <;> first | rfl | cases hb
    exact PE.imp (pe_ix ((ix_list.or ix_tup).or (ix_dic (by have := c.room.un; omega))) h1 h2 plain) fun σ H Q q => TEv.mono q fun v H1 q1 => TEv.mono q1 fun u H2 q2 => rd_ix q2
  | rev =>
    obtain ⟨a, j, p1, p2, p3, p4, rfl, rfl⟩ := revSh_of hs
    obtain ⟨x, rfl, h1, _⟩ := pes1 hp
    exact PE.imp (pe_rvA h1) fun σ H Q q => TEv.mono q fun v H1 q1 => rd_rev q1
  | len => exact blt1 c hs hp (by decide) b_len (call_len_seq.or call_len_dK) fun σ v H Q h => rd_len (flat_rd rfl h)
  | abs => exact blt1 c hs hp (by decide) b_abs call_abs fun σ v H Q h => rd_abs (flat_rd rfl h)
  | int => exact bty1 c hs hp (by decide) b_int call_int1 fun σ v H Q h => rd_int (flat_rd rfl h)
  | str => exact bty1 c hs hp (by decide) b_str call_str_int fun σ v H Q h => rd_str (flat_rd rfl h)
  | repr => exact blt1 c hs hp (by decide) b_repr (call_reprD c.gd (by have := c.room.un; omega)) fun σ v H Q h => rd_repr (flat_rd rfl h)
  | sum => exact blt1 c hs hp (by decide) b_sum ((cr_sum c.calm).or (cr_sumT c.calm)) fun σ v H Q h => rd_sum (flat_rd rfl h)
  | min =>
    replace hs : call12 sc "min" e = some es := hs
    unfold call12 at hs
    split at hs
    · rename_i l hl
      cases hs
      exact blt1 c hl hp (by decide) b_min ((cr_min c.calm).or (cr_minT c.calm)) fun σ v H Q h => rd_min1 (flat_rd rfl h)
    · exact blt2 c hs hp (by decide) b_min (call_min2 c.calm) fun σ v w H Q h => rd_min2 (flat_rd rfl h)
  | max =>
    replace hs : call12 sc "max" e = some es := hs
    unfold call12 at hs
    split at hs
    · rename_i l hl
      cases hs
      exact blt1 c hl hp (by decide) b_max ((cr_max c.calm).or (cr_maxT c.calm)) fun σ v H Q h => rd_max1 (flat_rd rfl h)
    · exact blt2 c hs hp (by decide) b_max (call_max2 c.calm) fun σ v w H Q h => rd_max2 (flat_rd rfl h)
  | any => exact blt1 c hs hp (by decide) b_any (cr_any c.calm) fun σ v H Q h => rd_any (flat_rd rfl h)
  | all => exact blt1 c hs hp (by decide) b_all (cr_all c.calm) fun σ v H Q h => rd_all (flat_rd rfl h)
  | tuple => exact bty1 c hs hp (by decide) b_tuple call_tuple_of fun σ v H Q h => rd_tuple h
  | list => exact bty1 c hs hp (by decide) b_list call_list_of fun σ v H Q h => rd_list h
  | sorted => exact blt1 c hs hp (by decide) b_sorted cr_srt fun σ v H Q h => rd_srt h
  | lrg =>
    obtain ⟨a, p1, p2, p3, p4, rfl, rfl, g1, g2, ns⟩ := rngSh_of hs
    obtain ⟨x, rfl, h1, _⟩ := pes1 hp
    exact PE.imp (pe_listRg c.calm (c.gl g1) (c.blt "list" (by decide)) (prg_1 (c.gl g2) (c.blt "range" (by decide)) h1 (star_of ns _ _))) fun σ H Q q => TEv.mono q fun v H1 q1 => rd_lrg q1
  | trg =>
    obtain ⟨a, p1, p2, p3, p4, rfl, rfl, g1, g2, ns⟩ := rngSh_of hs
    obtain ⟨x, rfl, h1, _⟩ := pes1 hp
    exact PE.imp (pe_tupRg c.calm (c.gl g1) (c.blt "tuple" (by decide)) (prg_1 (c.gl g2) (c.blt "range" (by decide)) h1 (star_of ns _ _))) fun σ H Q q => TEv.mono q fun v H1 q1 => rd_trg q1
  | shr =>
    replace hs : shrSh e = some es := hs
    unfold shrSh at hs
    split at hs
    · cases hs
      obtain ⟨x, rfl, h1, _⟩ := pes1 hp
      exact PE.imp h1 fun σ H Q q => TEv.mono q fun v H1 q1 => rd_shr q1
    · cases hs
  | dic0 =>
    replace hs : dicSh e = some es := hs
    unfold dicSh at hs
    split at hs
    · cases hs
      cases hp
      exact PE.imp pe_dnewK fun σ H Q q => rd_dic0 q rfl
    · cases hs
  | isin =>
    obtain ⟨a, b, p1, rfl, rfl, hb⟩ := inSh_of hs
    obtain ⟨x, y, rfl, h1, h2, _, _⟩ := pes2 hp
    exact PE.imp (pe_cmpR (((op_inD (by have := c.room.un; omega)).or op_in_seq).or (op_inK (by have := c.room.un; omega))) h1 h2 hb) fun σ H Q q => TEv.mono q fun v H1 q1 => TEv.mono q1 fun u H2 q2 => rd_in (flat_rd rfl q2)
  | notin =>
    obtain ⟨a, b, p1, rfl, rfl, hb⟩ := inSh_of hs
    obtain ⟨x, y, rfl, h1, h2, _, _⟩ := pes2 hp
    exact PE.imp (pe_cmpR (((op_notInD (by have := c.room.un; omega)).or op_notIn_seq).or (op_notinK (by have := c.room.un; omega))) h1 h2 hb) fun σ H Q q => TEv.mono q fun v H1 q1 => TEv.mono q1 fun u H2 q2 => rd_notin (flat_rd rfl q2)
  | isI n =>
    obtain ⟨a, p1, p2, p3, rfl, rfl, hn, hg1, hg2⟩ := isiSh_of hs
    obtain ⟨x, rfl, h1, ns⟩ := pes1 hp
    obtain ⟨hm, hv, hnn, hdb⟩ := is_boot c hn
    have st := star_of ns
    refine PE.imp (pe_callB (r := rIsi X.K) call_isi (c.gl hg1) (c.blt "isinstance" (by decide)) b_isinst (pa_cons h1 (pa_cons (pe_bltn (v := .ty n) (c.gl hg2) hm hv rfl hnn hdb) pa_nil) (st _ _)) (by decide) (by decide) (st _ _)) fun σ H Q q => ?_
    exact TEv.mono q fun v H1 q1 => rd_isi hn (flat_rd rfl q1)
end
end PyI

namespace PyI
open PySem PySem.Spec PyProof.Rows L2
/-- a test's reading -/
def TTv (K : PySem.W.Frag) (Γ : Ctx) (e : E) : TT := fun σ H Q => ∃ F env fo b env', Same F H ∧ ER K F H σ env fo ∧ boolOf (ev Γ e env) = some (b, env') ∧
  ∀ F' H' fo', Step F H (ofF fo) F' H' (ofF fo') → ER K F' H' σ env' fo' → Q b H'
theorem boolOf_of {o : Option (R × Env)} {b : Bool} {env : Env} (h : boolOf o = some (b, env)) : o = some (.own (.leaf (.bool b)), env) := by
  unfold boolOf at h
  split at h
  · cases h; rfl
  · cases h
theorem step0 {F H F' H' : Hp} {fo fo' : Nat → List Addr} (s : Step F H (fun a => a ∈ ([] : List Addr) ∨ ofF fo a) F' H' (fun a => a ∈ ([] : List Addr) ∨ ofF fo' a)) : Step F H (ofF fo) F' H' (ofF fo') :=
  ⟨s.fs, s.fh, fun b o e n => s.keep b o e fun z => z.elim (fun y => nomatch y) n, s.dom, fun a z => (s.own a (.inr z)).imp (fun y => y.elim (fun w => nomatch w) id) id⟩
theorem step1 {F H F' H' : Hp} {fo fo' : Nat → List Addr} (s : Step F H (ofF fo) F' H' (ofF fo')) : Step F H (fun a => a ∈ ([] : List Addr) ∨ ofF fo a) F' H' (fun a => a ∈ ([] : List Addr) ∨ ofF fo' a) :=
  ⟨s.fs, s.fh, fun b o e n => s.keep b o e fun z => n (.inr z), s.dom, fun a z => z.elim (fun y => nomatch y) fun y => (s.own a y).imp .inr id⟩
theorem bool_rr {K : PySem.W.Frag} {F H : Hp} {σ : L2.St} {v : V} {b : Bool} {l : List Addr} (h : RR K F H σ v (.own (.leaf (.bool b))) l) : v = .bl b ∧ l = [] := by
  cases h with | own h => cases h with | leaf h => cases h; exact ⟨rfl, rfl⟩
theorem TTv.ev {K : PySem.W.Frag} {Γ : Ctx} {e : E} {σ : L2.St} {H : Hp} {Q : Bool → Hp → Prop} (h : TTv K Γ e σ H Q) : TEv K Γ e σ H fun v H' => ∃ b, v = .bl b ∧ Q b H' := by
  obtain ⟨F, env, fo, b, env', h1, h2, h3, h4⟩ := h
  refine ⟨F, env, fo, _, env', h1, h2, boolOf_of h3, fun v F' H' fo' l p => ?_⟩
  obtain ⟨rfl, rfl⟩ := bool_rr p.rr
  exact ⟨b, rfl, h4 F' H' fo' (step0 p.st) p.er⟩
def plainTest : Expr → Bool
  | .UnaryOp .Not _ _ => false
  | .BoolOp _ _ _ => false
  | .IfExp _ _ _ _ => false
  | .Compare _ _ _ _ => false
  | _ => true
section
variable {P : List Def} {k : Nat} {N : List Str} {sc : Scope} {top : Bool} {X : Cx} {Γ : Ctx}
theorem plainTest_of {e : Expr} (h : plainTest e = true) (env : PySem.Env) (whole : Sem Value) : isTrue e env whole = (do let v ← whole; standAt e.pos; holding [v] (truthy v)) := by
  cases e with
  | UnaryOp op x p => cases op <;> first | rfl | cases h
  | _ => first | rfl | cases h
/-- a plain expression as a test -/
theorem pt_of {e : Expr} {E : E} (h : PE X e (TEv X.K Γ E)) (p : plainTest e = true) : PT X e (TTv X.K Γ E) := PT.imp (pt_val h (plainTest_of p X.env)) fun σ H Q q => q.ev
theorem cmp_test {op : CmpOp} {r : R2} {o : Op} {as : Es} {e : Expr} {es : List Expr} (hs : cmpSh op e = some es) (hp : PEs X Γ as es) (ho : OpR X (compareOp op) r) (hm : ∀ b, behindInMarks op b = false) (h : ∀ σ x y H Q, rdO X.K σ o [x, y] H Q → r x y H Q) :
    PT X e fun σ H Q => TOp X Γ o as σ H fun x H1 => ∃ b, x = .bl b ∧ Q b H1 := by
  unfold cmpSh at hs
  split at hs
  · split at hs
    · rename_i c
      cases hs
      subst c
      obtain ⟨x, y, rfl, h1, h2, _, _⟩ := pes2 hp
      exact PT.imp (pt_cmpR ho h1 h2 (hm _)) fun σ H Q q => TEv.mono q fun v H1 q1 => TEv.mono q1 fun u H2 q2 => h σ v u H2 _ q2
    · cases hs
  · cases hs
theorem none_test {op : CmpOp} {r : R2} {o : Op} {as : Es} {e : Expr} {es : List Expr} (hs : noneSh op e = some es) (hp : PEs X Γ as es) (ho : OpR X (compareOp op) r) (hm : ∀ b, behindInMarks op b = false) (h : ∀ σ x H Q, rdO X.K σ o [x] H Q → r x .non H Q) :
    PT X e fun σ H Q => TOp X Γ o as σ H fun x H1 => ∃ b, x = .bl b ∧ Q b H1 := by
  obtain ⟨a, j, p1, p2, rfl, rfl⟩ := noneSh_of hs
  obtain ⟨x, rfl, h1, _⟩ := pes1 hp
  exact PT.imp (pt_cmpR ho h1 pe_non (hm _)) fun σ H Q q => TEv.mono q fun v H1 q1 => h σ v H1 _ q1
theorem true_test {op : CmpOp} {r : R2} {o : Op} {as : Es} {e : Expr} {es : List Expr} (hs : trueSh op e = some es) (hp : PEs X Γ as es) (ho : OpR X (compareOp op) r) (hm : ∀ b, behindInMarks op b = false) (h : ∀ σ x H Q, rdO X.K σ o [x] H Q → r x (.bl true) H Q) :
    PT X e fun σ H Q => TOp X Γ o as σ H fun x H1 => ∃ b, x = .bl b ∧ Q b H1 := by
  obtain ⟨a, j, p1, p2, rfl, rfl⟩ := trueSh_of hs
  obtain ⟨x, rfl, h1, _⟩ := pes1 hp
  exact PT.imp (pt_cmpR ho h1 pe_bl (hm _)) fun σ H Q q => TEv.mono q fun v H1 q1 => h σ v H1 _ q1
theorem op_test (c : CxOk P k N sc top X) (o : Op) (as : Es) (e : Expr) (es : List Expr) (hs : shape sc o e = some es) (hp : PEs X Γ as es) : PT X e fun σ H Q => TOp X Γ o as σ H fun x H1 => ∃ b, x = .bl b ∧ Q b H1 := by
  have nm : ∀ {op : CmpOp}, op ≠ .In → op ≠ .NotIn → ∀ b, behindInMarks op b = false := fun h1 h2 b => nobehind b h1 h2
  have hu := c.room.units
  by_cases p : plainTest e = true
  · exact pt_val (op_ok c o as e es hs hp) (plainTest_of p X.env)
  have bin : ∀ {op}, binSh op e = some es → False := fun {op} h => by
    unfold binSh at h
    split at h
    · exact p rfl
    · cases h
  have call : ∀ {x n}, callSh sc x n e = some es → False := fun {x n} h => by
    obtain ⟨_, _, rfl, _⟩ := callSh_of h
    exact p rfl
  have call2 : ∀ {x}, call12 sc x e = some es → False := fun {x} h => by
    unfold call12 at h
    split at h
    · rename_i l hl; cases h; exact call hl
    · exact call h
  cases o with
  | eq => exact cmp_test hs hp (op_eqD hu) (nm (by decide) (by decide)) fun σ x y H Q h => rd_eq (flat_rd rfl h)
  | ne => exact cmp_test hs hp (op_neD hu) (nm (by decide) (by decide)) fun σ x y H Q h => rd_ne (flat_rd rfl h)
  | lt => exact cmp_test hs hp op_lt (nm (by decide) (by decide)) fun σ x y H Q h => rd_lt (flat_rd rfl h)
  | le => exact cmp_test hs hp op_le (nm (by decide) (by decide)) fun σ x y H Q h => rd_le (flat_rd rfl h)
  | gt => exact cmp_test hs hp op_gt (nm (by decide) (by decide)) fun σ x y H Q h => rd_gt (flat_rd rfl h)
  | ge => exact cmp_test hs hp op_ge (nm (by decide) (by decide)) fun σ x y H Q h => rd_ge (flat_rd rfl h)
  | isN => exact none_test hs hp op_isN (nm (by decide) (by decide)) fun σ x H Q h => ⟨rfl, rd_isN (flat_rd rfl h)⟩
  | isT => exact true_test hs hp op_isBl (nm (by decide) (by decide)) fun σ x H Q h => rd_isT (flat_rd rfl h)
  | notT => exact true_test hs hp op_notBl (nm (by decide) (by decide)) fun σ x H Q h => rd_notT (flat_rd rfl h)
  | notN => exact none_test hs hp op_notN (nm (by decide) (by decide)) fun σ x H Q h => ⟨rfl, rd_notN (flat_rd rfl h)⟩
  | add => exact (bin hs).elim
  | sub => exact (bin hs).elim
  | mul => exact (bin hs).elim
  | fdiv => exact (bin hs).elim
  | mod => exact (bin hs).elim
  | pow => exact (bin hs).elim
  | neg =>
    replace hs : unSh .USub e = some es := hs
    unfold unSh at hs
    split at hs
    · split at hs
      · rename_i q; subst q; exact absurd rfl p
      · cases hs
    · cases hs
  | tup => obtain ⟨_, _, rfl, _⟩ := tupSh_of hs; exact absurd rfl p
  | lst => obtain ⟨_, rfl, _⟩ := lstSh_of hs; exact absurd rfl p
  | nil => obtain ⟨_, rfl, _⟩ := nilSh_of hs; exact absurd rfl p
  | shr =>
    replace hs : shrSh e = some es := hs
    unfold shrSh at hs
    split at hs
    · rename_i px
      refine absurd ?_ p
      cases e with
      | UnaryOp op _ _ => cases px
      | BoolOp _ _ _ => cases px
      | IfExp _ _ _ _ => cases px
      | Compare _ _ _ _ => cases px
      | _ => rfl
    · cases hs
  | dic0 =>
    replace hs : dicSh e = some es := hs
    unfold dicSh at hs
    split at hs
    · exact absurd rfl p
    · cases hs
  | ix => obtain ⟨_, _, _, rfl, _⟩ := ixSh_of hs; exact absurd rfl p
  | lrg => obtain ⟨_, _, _, _, _, rfl, _⟩ := rngSh_of hs; exact absurd rfl p
  | trg => obtain ⟨_, _, _, _, _, rfl, _⟩ := rngSh_of hs; exact absurd rfl p
  | rev => obtain ⟨_, _, _, _, _, _, rfl, _⟩ := revSh_of hs; exact absurd rfl p
  | min => exact (call2 hs).elim
  | max => exact (call2 hs).elim
  | isin =>
    obtain ⟨a, b, p1, rfl, rfl, hb⟩ := inSh_of hs
    obtain ⟨x, y, rfl, h1, h2, _, _⟩ := pes2 hp
    exact PT.imp (pt_cmpR (((op_inD (by have := c.room.un; omega)).or op_in_seq).or (op_inK (by have := c.room.un; omega))) h1 h2 hb) fun σ H Q q => TEv.mono q fun v H1 q1 => TEv.mono q1 fun u H2 q2 => rd_in (flat_rd rfl q2)
  | notin =>
    obtain ⟨a, b, p1, rfl, rfl, hb⟩ := inSh_of hs
    obtain ⟨x, y, rfl, h1, h2, _, _⟩ := pes2 hp
    exact PT.imp (pt_cmpR (((op_notInD (by have := c.room.un; omega)).or op_notIn_seq).or (op_notinK (by have := c.room.un; omega))) h1 h2 hb) fun σ H Q q => TEv.mono q fun v H1 q1 => TEv.mono q1 fun u H2 q2 => rd_notin (flat_rd rfl q2)
  | isI c =>
    obtain ⟨a, p1, p2, p3, rfl, rfl, _⟩ := isiSh_of hs
    exact absurd rfl p
  | _ => exact (call hs).elim
end

/-! ### the forms one by one -/
section
variable {P : List Def} {k : Nat} {N : List Str} {sc : Scope} {top : Bool} {X : Cx} {Γ : Ctx}
theorem ev_var (c : CxOk P k N sc top X) {i : Nat} {x : Str} {pos : Pos} (h1 : N[i]? = some x) (h2 : visB sc x = true) (h3 : plainNm x = true) : PE X (.Name x pos) (TEv X.K Γ (.var i)) := by
  unfold plainNm at h3
  simp only [Bool.and_eq_true, Bool.not_eq_true'] at h3
  refine PE.imp (pe_var (by rw [c.hN]; exact h1) (c.vis h2) h3.1.1 h3.1.2) fun σ H Q ⟨F, env, fo, r, env', fh, er, e, q⟩ => ?_
  unfold ev at e
  cases hq : env[i]? with
  | none => rw [hq] at e; cases e
  | some o =>
    rw [hq] at e
    cases o with
    | none => cases e
    | some t =>
      obtain ⟨v, g1, g2⟩ := er.rep i t hq
      refine ⟨v, g1, ?_⟩
      cases t with
      | leaf d =>
        cases e
        cases hf : fo i with
        | nil =>
          rw [hf] at g2
          exact q v F H fo [] ⟨.refl fh fun a z => z, er, List.nodup_nil, (fun _ z => nomatch z), .own g2, fun _ => ⟨rfl, rfl, Same.refl H⟩⟩
        | cons a l => rw [hf] at g2; cases g2
      | nod g ts =>
        cases e
        exact q v F H fo [] ⟨.refl fh fun a z => z, er, List.nodup_nil, (fun _ z => nomatch z), .al ⟨v, g1, rfl⟩, fun _ => ⟨rfl, rfl, Same.refl H⟩⟩
theorem ev_c {d : D} {cst : Const} {j : Nat} {pos : Pos} (h : constB d cst = true) : PE X (.Constant cst j pos) (TEv X.K Γ (.c d)) := by
  have fin : ∀ {v : V} {σ : L2.St} {H : Hp} {Q : VK}, flatOf d = some v → TEv X.K Γ (.c d) σ H Q → Q v H := fun {v σ H Q} hv ⟨F, env, fo, r, env', fh, er, e, q⟩ => by
    unfold ev at e
    cases e
    exact q v F H fo [] (post_leaf er (Same.refl F) fh (Same.refl H) (fun _ _ _ => rfl) (flatOf_dp hv))
  cases d with
  | none =>
    cases cst with
    | none => exact PE.imp pe_non fun σ H Q q => fin rfl q
    | _ => cases h
  | bool b =>
    cases cst with
    | bool b' => rw [← show b = b' from by simpa [constB] using h]; exact PE.imp pe_bl fun σ H Q q => fin rfl q
    | _ => cases h
  | int b =>
    cases cst with
    | int b' => rw [← show b = b' from by simpa [constB] using h]; exact PE.imp pe_int fun σ H Q q => fin rfl q
    | _ => cases h
  | str b =>
    cases cst with
    | str b' => rw [← show b = b' from by simpa [constB] using h]; exact PE.imp pe_str fun σ H Q q => fin rfl q
    | _ => cases h
  | _ => cases cst <;> cases h
theorem sameB_of : ∀ {c d : D}, sameB c d = true → c = d := by
  intro c d h
  cases c <;> cases d <;> first | rfl | (simp [sameB] at h; rw [h]) | cases h
theorem ev_g (c : CxOk P k N sc top X) {d : D} {x : Str} {pos : Pos} (h1 : constNm P x d = true) (h2 : glB sc x = true) (h3 : plainNm x = true) : PE X (.Name x pos) (TEv X.K Γ (.c d)) := by
  unfold constNm at h1
  obtain ⟨q, hq, h⟩ := List.any_eq_true.mp h1
  obtain ⟨e1, e2⟩ := Bool.and_eq_true_iff.mp h
  have e1 := of_decide_eq_true e1
  subst e1
  cases hc : q.const with
  | none => rw [hc] at e2; cases e2
  | some c0 =>
    rw [hc] at e2
    have e2 := sameB_of e2
    subst e2
    obtain ⟨v, u, g1, g2, g3⟩ := c.cts q hq c0 hc
    unfold plainNm at h3
    simp only [Bool.and_eq_true, Bool.not_eq_true'] at h3
    refine PE.imp (pe_glob (c.gl h2) g1 g2 h3.1.1) fun σ H Q ⟨F, env, fo, r, env', fh, er, e, q⟩ => ?_
    unfold ev at e
    cases e
    exact q v F H fo [] (post_leaf er (Same.refl F) fh (Same.refl H) (fun _ _ _ => rfl) (g3 F))
theorem ev_op (c : CxOk P k N sc top X) {o : Op} {as : Es} {e : Expr} {es : List Expr} (hs : shape sc o e = some es) (hp : PEs X Γ as es) : PE X e (TEv X.K Γ (.op o as)) ∧ PT X e (TTv X.K Γ (.op o as)) := by
  have go : ∀ {σ : L2.St} {H : Hp} {Q : VK}, TEv X.K Γ (.op o as) σ H Q → TOp X Γ o as σ H Q := fun {σ H Q} ⟨F, env, fo, r, env', fh, er, e, q⟩ => by
    unfold ev at e
    cases h1 : evs Γ as env with
    | none => rw [h1] at e; cases e
    | some z =>
      obtain ⟨rs, env1⟩ := z
      rw [h1] at e
      refine evs_seq as F H env env1 fo rs _ fh er h1 fun vs F1 H1 fo1 l1 p1 => ?_
      refine ⟨F1, env1, fo1, rs, l1, r, env', p1.st.fh, p1.er, p1.rr, p1.nd, p1.dj, e, fun v F' H' fo' l' p2 => q v F' H' fo' l' ⟨?_, p2.er, p2.nd, p2.dj, p2.rr, fun z => ?_⟩⟩
      · have s := p1.st.trans p2.st
        exact ⟨s.fs, s.fh, fun b o e n => s.keep b o e fun z => n (.inr z), s.dom, fun a z => (s.own a z).imp .inr id⟩
      · unfold E.quiet at z
        obtain ⟨z1, z2⟩ := Bool.and_eq_true_iff.mp z
        obtain ⟨a1, a2, a3⟩ := p1.qt z2
        obtain ⟨b1, b2, b3⟩ := p2.qt z1
        exact ⟨b1.trans a1, b2.trans a2, a3.trans b3⟩
  exact ⟨PE.imp (op_ok c o as e es hs hp) fun σ H Q q => go q, PT.imp (op_test c o as e es hs hp) fun σ H Q q => go q.ev⟩
end
end PyI

namespace PyI
open PySem PySem.Spec PyProof.Rows L2
structure EOk (X : Cx) (Γ : Ctx) (e : Expr) (E : E) : Prop where
  pe : PE X e (TEv X.K Γ E)
  pt : PT X e (TTv X.K Γ E)
  pw : (∃ op vs pos, e = .BoolOp op vs pos) → PW X e (TTv X.K Γ E)
section
variable {K : PySem.W.Frag} {σ : L2.St} {Γ : Ctx}
/-- a first step without a result, then the rest -/
theorem Post.after {F H F1 H1 F2 H2 : Hp} {fo fo1 fo2 : Nat → List Addr} {l : List Addr} {q : Bool} {env env1 env2 : Env} {r : R} {v : V} (s : Step F H (ofF fo) F1 H1 (ofF fo1)) (p : Post K σ F1 H1 [] fo1 q env1 r env2 v F2 H2 fo2 l) : Post K σ F H [] fo false env r env2 v F2 H2 fo2 l :=
  ⟨(step1 s).trans p.st, p.er, p.nd, p.dj, p.rr, fun z => nomatch z⟩
theorem flat_post {F H : Hp} {env : Env} {fo : Nat → List Addr} {q : Bool} {b : Bool} (fh : Same F H) (er : ER K F H σ env fo) : Post K σ F H [] fo q env (.own (.leaf (.bool b))) env (.bl b) F H fo [] :=
  post_leaf er (Same.refl F) fh (Same.refl H) (fun _ _ _ => rfl) (.bl b)
/-- a bool first -/
theorem bool_first {e : E} {F H : Hp} {env env1 : Env} {fo : Nat → List Addr} {b : Bool} {Q : Bool → Hp → Prop} (fh : Same F H) (er : ER K F H σ env fo) (e1 : boolOf (ev Γ e env) = some (b, env1)) (q : ∀ F1 H1 fo1, Step F H (ofF fo) F1 H1 (ofF fo1) → ER K F1 H1 σ env1 fo1 → Q b H1) :
    TEv K Γ e σ H fun x H1 => ∃ c, x = .bl c ∧ Q c H1 := TTv.ev ⟨F, env, fo, b, env1, fh, er, e1, q⟩
theorem and_rd {a b : E} {H : Hp} {Q : VK} (h : TEv K Γ (.and a b) σ H Q) : TEv K Γ a σ H fun x H1 => ∃ c, x = .bl c ∧ if c = true then TEv K Γ b σ H1 Q else Q (.bl false) H1 := by
  obtain ⟨F, env, fo, r, env', fh, er, e, q⟩ := h
  unfold ev at e
  cases h1 : boolOf (ev Γ a env) with
  | none => rw [h1] at e; cases e
  | some z =>
    obtain ⟨c, e1⟩ := z
    rw [h1] at e
    refine bool_first (Q := fun c H1 => if c = true then TEv K Γ b σ H1 Q else Q (.bl false) H1) fh er h1 fun F1 H1 fo1 s er1 => ?_
    cases c with
    | true =>
      rw [if_pos rfl]
      exact ⟨F1, e1, fo1, r, env', s.fh, er1, e, fun v F' H' fo' l p => q v F' H' fo' l (p.after s)⟩
    | false =>
      rw [if_neg Bool.false_ne_true]
      cases e
      exact q _ F1 H1 fo1 [] ((flat_post (q := false) s.fh er1).after s)
theorem or_rd {a b : E} {H : Hp} {Q : VK} (h : TEv K Γ (.or a b) σ H Q) : TEv K Γ a σ H fun x H1 => ∃ c, x = .bl c ∧ if c = true then Q (.bl true) H1 else TEv K Γ b σ H1 Q := by
  obtain ⟨F, env, fo, r, env', fh, er, e, q⟩ := h
  unfold ev at e
  cases h1 : boolOf (ev Γ a env) with
  | none => rw [h1] at e; cases e
  | some z =>
    obtain ⟨c, e1⟩ := z
    rw [h1] at e
    refine bool_first (Q := fun c H1 => if c = true then Q (.bl true) H1 else TEv K Γ b σ H1 Q) fh er h1 fun F1 H1 fo1 s er1 => ?_
    cases c with
    | false =>
      rw [if_neg Bool.false_ne_true]
      exact ⟨F1, e1, fo1, r, env', s.fh, er1, e, fun v F' H' fo' l p => q v F' H' fo' l (p.after s)⟩
    | true =>
      rw [if_pos rfl]
      cases e
      exact q _ F1 H1 fo1 [] ((flat_post (q := false) s.fh er1).after s)
theorem not_rd {a : E} {H : Hp} {Q : VK} (h : TEv K Γ (.not a) σ H Q) : TEv K Γ a σ H fun x H1 => ∃ c, x = .bl c ∧ Q (.bl (!c)) H1 := by
  obtain ⟨F, env, fo, r, env', fh, er, e, q⟩ := h
  unfold ev at e
  cases h1 : boolOf (ev Γ a env) with
  | none => rw [h1] at e; cases e
  | some z =>
    obtain ⟨c, e1⟩ := z
    rw [h1] at e
    cases e
    exact bool_first (Q := fun c H1 => Q (.bl (!c)) H1) fh er h1 fun F1 H1 fo1 s er1 => q _ F1 H1 fo1 [] ((flat_post (q := false) s.fh er1).after s)
theorem and_tt {a b : E} {H : Hp} {Q : Bool → Hp → Prop} (h : TTv K Γ (.and a b) σ H Q) : TTv K Γ a σ H fun c H1 => if c = true then TTv K Γ b σ H1 Q else Q false H1 := by
  obtain ⟨F, env, fo, r, env', fh, er, e, q⟩ := h
  unfold ev at e
  cases h1 : boolOf (ev Γ a env) with
  | none => rw [h1] at e; cases e
  | some z =>
    obtain ⟨c, e1⟩ := z
    rw [h1] at e
    refine ⟨F, env, fo, c, e1, fh, er, h1, fun F1 H1 fo1 s er1 => ?_⟩
    cases c with
    | true =>
      rw [if_pos rfl]
      exact ⟨F1, e1, fo1, r, env', s.fh, er1, e, fun F' H' fo' s' er' => q F' H' fo' (s.trans s') er'⟩
    | false =>
      rw [if_neg Bool.false_ne_true]
      cases e
      exact q F1 H1 fo1 s er1
theorem or_tt {a b : E} {H : Hp} {Q : Bool → Hp → Prop} (h : TTv K Γ (.or a b) σ H Q) : TTv K Γ a σ H fun c H1 => if c = true then Q true H1 else TTv K Γ b σ H1 Q := by
  obtain ⟨F, env, fo, r, env', fh, er, e, q⟩ := h
  unfold ev at e
  cases h1 : boolOf (ev Γ a env) with
  | none => rw [h1] at e; cases e
  | some z =>
    obtain ⟨c, e1⟩ := z
    rw [h1] at e
    refine ⟨F, env, fo, c, e1, fh, er, h1, fun F1 H1 fo1 s er1 => ?_⟩
    cases c with
    | false =>
      rw [if_neg Bool.false_ne_true]
      exact ⟨F1, e1, fo1, r, env', s.fh, er1, e, fun F' H' fo' s' er' => q F' H' fo' (s.trans s') er'⟩
    | true =>
      rw [if_pos rfl]
      cases e
      exact q F1 H1 fo1 s er1
theorem not_tt {a : E} {H : Hp} {Q : Bool → Hp → Prop} (h : TTv K Γ (.not a) σ H Q) : TTv K Γ a σ H fun c H1 => Q (!c) H1 := by
  obtain ⟨F, env, fo, r, env', fh, er, e, q⟩ := h
  unfold ev at e
  cases h1 : boolOf (ev Γ a env) with
  | none => rw [h1] at e; cases e
  | some z =>
    obtain ⟨c, e1⟩ := z
    rw [h1] at e
    cases e
    exact ⟨F, env, fo, c, env', fh, er, h1, fun F1 H1 fo1 s er1 => q F1 H1 fo1 s er1⟩
theorem ite_rd {c a b : E} {H : Hp} {Q : VK} (h : TEv K Γ (.ite c a b) σ H Q) : TTv K Γ c σ H fun z H1 => if z = true then TEv K Γ a σ H1 Q else TEv K Γ b σ H1 Q := by
  obtain ⟨F, env, fo, r, env', fh, er, e, q⟩ := h
  unfold ev at e
  cases h1 : boolOf (ev Γ c env) with
  | none => rw [h1] at e; cases e
  | some z =>
    obtain ⟨d, e1⟩ := z
    rw [h1] at e
    refine ⟨F, env, fo, d, e1, fh, er, h1, fun F1 H1 fo1 s er1 => ?_⟩
    cases d with
    | true =>
      rw [if_pos rfl]
      exact ⟨F1, e1, fo1, r, env', s.fh, er1, e, fun v F' H' fo' l p => q v F' H' fo' l (p.after s)⟩
    | false =>
      rw [if_neg Bool.false_ne_true]
      exact ⟨F1, e1, fo1, r, env', s.fh, er1, e, fun v F' H' fo' l p => q v F' H' fo' l (p.after s)⟩
theorem ite_tt {c a b : E} {H : Hp} {Q : Bool → Hp → Prop} (h : TTv K Γ (.ite c a b) σ H Q) : TTv K Γ c σ H fun z H1 => if z = true then TTv K Γ a σ H1 Q else TTv K Γ b σ H1 Q := by
  obtain ⟨F, env, fo, r, env', fh, er, e, q⟩ := h
  unfold ev at e
  cases h1 : boolOf (ev Γ c env) with
  | none => rw [h1] at e; cases e
  | some z =>
    obtain ⟨d, e1⟩ := z
    rw [h1] at e
    refine ⟨F, env, fo, d, e1, fh, er, h1, fun F1 H1 fo1 s er1 => ?_⟩
    cases d with
    | true =>
      rw [if_pos rfl]
      exact ⟨F1, e1, fo1, r, env', s.fh, er1, e, fun F' H' fo' s' er' => q F' H' fo' (s.trans s') er'⟩
    | false =>
      rw [if_neg Bool.false_ne_true]
      exact ⟨F1, e1, fo1, r, env', s.fh, er1, e, fun F' H' fo' s' er' => q F' H' fo' (s.trans s') er'⟩
end
section
variable {X : Cx} {Γ : Ctx} {x y : Expr} {a b c : E} {pos : Pos} {r : List Expr}
theorem ok_and2 (h1 : EOk X Γ x a) (h2 : EOk X Γ y b) : EOk X Γ (.BoolOp .And [x, y] pos) (.and a b) := by
  have w : PW X (.BoolOp .And [x, y] pos) (TTv X.K Γ (.and a b)) := PW.imp (pw_and h1.pt (pw_and1 h2.pt)) fun σ H Q q => and_tt q
  exact ⟨PE.imp (pe_and h1.pe (pe_one h2.pe)) fun σ H Q q => and_rd q, w.pt, fun _ => w⟩
theorem ok_andN {z : Expr} (h1 : EOk X Γ x a) (h2 : EOk X Γ (.BoolOp .And (y :: z :: r) pos) b) : EOk X Γ (.BoolOp .And (x :: y :: z :: r) pos) (.and a b) := by
  have w : PW X (.BoolOp .And (x :: y :: z :: r) pos) (TTv X.K Γ (.and a b)) := PW.imp (pw_and h1.pt (h2.pw ⟨_, _, _, rfl⟩)) fun σ H Q q => and_tt q
  exact ⟨PE.imp (pe_and h1.pe h2.pe) fun σ H Q q => and_rd q, w.pt, fun _ => w⟩
theorem ok_or2 (h1 : EOk X Γ x a) (h2 : EOk X Γ y b) : EOk X Γ (.BoolOp .Or [x, y] pos) (.or a b) := by
  have w : PW X (.BoolOp .Or [x, y] pos) (TTv X.K Γ (.or a b)) := PW.imp (pw_or h1.pt (pw_or1 h2.pt)) fun σ H Q q => or_tt q
  exact ⟨PE.imp (pe_or h1.pe (pe_one h2.pe)) fun σ H Q q => or_rd q, w.pt, fun _ => w⟩
theorem ok_orN {z : Expr} (h1 : EOk X Γ x a) (h2 : EOk X Γ (.BoolOp .Or (y :: z :: r) pos) b) : EOk X Γ (.BoolOp .Or (x :: y :: z :: r) pos) (.or a b) := by
  have w : PW X (.BoolOp .Or (x :: y :: z :: r) pos) (TTv X.K Γ (.or a b)) := PW.imp (pw_or h1.pt (h2.pw ⟨_, _, _, rfl⟩)) fun σ H Q q => or_tt q
  exact ⟨PE.imp (pe_or h1.pe h2.pe) fun σ H Q q => or_rd q, w.pt, fun _ => w⟩
theorem ok_not (h1 : EOk X Γ x a) : EOk X Γ (.UnaryOp .Not x pos) (.not a) :=
  ⟨PE.imp (pe_not h1.pe) fun σ H Q q => not_rd q, PT.imp (pt_not h1.pt) fun σ H Q q => not_tt q, fun ⟨_, _, _, e⟩ => nomatch e⟩
theorem pt_ite {tc ta tb : TT} {z : Expr} (hc : PT X x tc) (ha : PT X y ta) (hb : PT X z tb) : PT X (.IfExp x y z pos) fun σ H Q => tc σ H fun d H1 => if d = true then ta σ H1 Q else tb σ H1 Q := by
  refine ⟨fun pins s σ H Q I h => ?_⟩
  show wpAny _ _ (do if ← isTrue x X.env (eval x X.env) then isTrue y X.env (eval y X.env) else isTrue z X.env (eval z X.env)) _ _ _
  refine wpAny_bind (thn (hc.run pins s σ H _ I h) fun d s1 ⟨H1, I1, q1⟩ => ?_)
  cases d with
  | true => exact ha.run pins s1 σ H1 Q I1 q1
  | false => exact hb.run pins s1 σ H1 Q I1 q1
theorem ok_ite {z : Expr} (h1 : EOk X Γ x a) (h2 : EOk X Γ y b) (h3 : EOk X Γ z c) : EOk X Γ (.IfExp x y z pos) (.ite a b c) :=
  ⟨PE.imp (pe_ifExp h1.pt h2.pe h3.pe) fun σ H Q q => ite_rd q, PT.imp (pt_ite h1.pt h2.pt h3.pt) fun σ H Q q => ite_tt q, fun ⟨_, _, _, e⟩ => nomatch e⟩
end
end PyI

namespace PyI
open PySem PySem.Spec PyProof.Rows L2
section
variable {K : PySem.W.Frag} {σ : L2.St} {Γ : Ctx}
theorem Step.sub {F H F' H' : Hp} {L M : Addr → Prop} {L' : Addr → Prop} (s : Step F H L F' H' L') (h : ∀ a, L a → M a) : Step F H M F' H' L' := ⟨s.fs, s.fh, fun b o e n => s.keep b o e fun z => n (h b z), s.dom, fun a z => (s.own a z).imp (h a) id⟩
/-- the step of a result, the result aside -/
theorem Post.step {F H F' H' : Hp} {fo fo' : Nat → List Addr} {q : Bool} {env env' : Env} {r : R} {v : V} {l : List Addr} (p : Post K σ F H [] fo q env r env' v F' H' fo' l) : Step F H (ofF fo) F' H' (ofF fo') :=
  (p.st.sub fun a z => z.elim (fun y => nomatch y) id).weak fun a z => .inr z
theorem Post.out {F H F' H' : Hp} {fo fo' : Nat → List Addr} {q : Bool} {env env' : Env} {r : R} {v : V} {l : List Addr} (p : Post K σ F H [] fo q env r env' v F' H' fo' l) : Step F H (ofF fo) F' H' (fun a => a ∈ l ∨ ofF fo' a) := p.st.sub fun a z => z.elim (fun y => nomatch y) id
/-- a pending result behind a further step -/
theorem Post.pend {F H F1 H1 F2 H2 : Hp} {fo fo1 : Nat → List Addr} {q : Bool} {env env1 : Env} {r : R} {v : V} {l1 : List Addr} {L2' : Addr → Prop} (p : Post K σ F H [] fo q env r env1 v F1 H1 fo1 l1) (s : Step F1 H1 (ofF fo1) F2 H2 L2') (hd : r.deep = true → Same H1 H2) : RR K F2 H2 σ v r l1 :=
  p.rr.step s p.dj hd
theorem dats2 {env : Env} {a b : R} {ds : List D} (h : dats env [a, b] = some ds) : ∃ x y, ds = [x, y] ∧ a.dat env = some x ∧ b.dat env = some y := by
  unfold dats at h
  cases h1 : a.dat env with
  | none => rw [h1] at h; cases h
  | some x =>
    rw [h1] at h
    unfold dats at h
    cases h2 : b.dat env with
    | none => rw [h2] at h; cases h
    | some y => rw [h2] at h; cases h; exact ⟨x, y, rfl, rfl, rfl⟩
theorem dp_pair {H : Hp} {F : Hp} {fo : Nat → List Addr} {env : Env} {x y : V} {a b : R} {l m : List Addr} {ds : List D} (fh : Same F H) (er : ER K F H σ env fo) (h1 : RR K F H σ x a l) (h2 : RR K F H σ y b m) (h : dats env [a, b] = some ds) : DqAll K H [x, y] ds := by
  obtain ⟨d, e, rfl, e1, e2⟩ := dats2 h
  exact .cons (dat_rep fh er h1 e1) (.cons (dat_rep fh er h2 e2) .nil)
theorem chain_rd {o p : Op} {a b c : E} {H : Hp} {Q : VK} (h : TEv K Γ (.chain o p a b c) σ H Q) :
    tChain (fun x y H Q => rFl K o [x, y] H Q) (fun x y H Q => rFl K p [x, y] H Q) (TEv K Γ a) (TEv K Γ b) (TEv K Γ c) σ H Q := by
  obtain ⟨F, env, fo, r, env', fh, er, e, q⟩ := h
  unfold ev at e
  cases h1 : ev Γ a env with
  | none => rw [h1] at e; cases e
  | some z =>
    obtain ⟨ra, e1⟩ := z
    rw [h1] at e
    simp only at e
    cases hd : (ra.deep && !b.quiet) with
    | true => rw [hd] at e; cases e
    | false =>
      rw [hd] at e
      simp only [Bool.false_eq_true, if_false] at e
      cases h2 : ev Γ b e1 with
      | none => rw [h2] at e; cases e
      | some z =>
        obtain ⟨rb, e2⟩ := z
        rw [h2] at e
        simp only at e
        cases hf : (isFlat o && isFlat p) with
        | false => rw [hf] at e; cases e
        | true =>
          rw [hf] at e
          simp only [if_true] at e
          cases h3 : dats e2 [ra, rb] with
          | none => rw [h3] at e; cases e
          | some ds =>
            rw [h3] at e
            simp only at e
            refine ⟨F, env, fo, ra, e1, fh, er, h1, fun x F1 H1 fo1 l1 p1 => ?_⟩
            refine ⟨F1, e1, fo1, rb, e2, p1.st.fh, p1.er, h2, fun y F2 H2 fo2 l2 p2 => ?_⟩
            have rx := p1.pend p2.step fun z => (p2.qt (deep_quiet hd z)).2.2
            have dd := dp_pair p2.st.fh p2.er rx p2.rr h3
            have s12 := p1.step.trans p2.step
            cases h4 : flatSem o ds with
            | none => rw [h4] at e; cases e
            | some d =>
              rw [h4] at e
              cases d with
              | bool k =>
                refine ⟨ds, .bool k, dd, h4, fun v hv => ?_⟩
                cases hv
                refine ⟨k, rfl, ?_⟩
                cases k with
                | false =>
                  rw [if_neg Bool.false_ne_true]
                  cases e
                  exact q _ F2 H2 fo2 [] ((flat_post (q := false) p2.st.fh p2.er).after s12)
                | true =>
                  rw [if_pos rfl]
                  simp only at e
                  cases hd2 : (rb.deep && !c.quiet) with
                  | true => rw [hd2] at e; cases e
                  | false =>
                    rw [hd2] at e
                    simp only [Bool.false_eq_true, if_false] at e
                    cases h5 : ev Γ c e2 with
                    | none => rw [h5] at e; cases e
                    | some z =>
                      obtain ⟨rc, e3⟩ := z
                      rw [h5] at e
                      simp only at e
                      cases h6 : dats e3 [rb, rc] with
                      | none => rw [h6] at e; cases e
                      | some es =>
                        rw [h6] at e
                        obtain ⟨d, g1, g2⟩ := Option.map_eq_some_iff.mp e
                        cases g2
                        refine ⟨F2, e2, fo2, rc, env', p2.st.fh, p2.er, h5, fun w F3 H3 fo3 l3 p3 => ?_⟩
                        have ry := p2.pend p3.step fun z => (p3.qt (deep_quiet hd2 z)).2.2
                        refine ⟨es, d, dp_pair p3.st.fh p3.er ry p3.rr h6, g1, fun v hv => ?_⟩
                        exact q v F3 H3 fo3 [] (Post.after (s12.trans p3.step) (post_leaf (q := false) p3.er (Same.refl F3) p3.st.fh (Same.refl H3) (fun _ _ _ => rfl) (flatOf_dp hv)))
              | _ => cases e
/-- the parts of a slice -/
def tO (K : PySem.W.Frag) (Γ : Ctx) : C → TO
  | .non => tNoPart
  | .some e => tPart (TEv K Γ e)
theorem part_rd {c : C} {F H : Hp} {env env' : Env} {fo : Nat → List Addr} {o : Option Int} {Q : Option Int → Hp → Prop} (fh : Same F H) (er : ER K F H σ env fo) (e : evP Γ c env = some (o, env')) (q : ∀ F' H' fo', Step F H (ofF fo) F' H' (ofF fo') → ER K F' H' σ env' fo' → Q o H') : tO K Γ c σ H Q := by
  cases c with
  | non =>
    unfold evP at e
    cases e
    exact q F H fo (.refl fh fun _ z => z) er
  | some a =>
    unfold evP at e
    cases h1 : ev Γ a env with
    | none => rw [h1] at e; cases e
    | some z =>
      obtain ⟨r, e1⟩ := z
      rw [h1] at e
      split at e
      · rename_i i e1' z
        cases z
        cases e
        refine ⟨F, env, fo, _, env', fh, er, h1, fun v F' H' fo' l p => ?_⟩
        have hv : v = .int i := by
          have := p.rr
          cases this with | own h => cases h with | leaf h => cases h; rfl
        exact ⟨i, hv, q F' H' fo' p.step p.er⟩
      · cases e
theorem sl_rd {a : E} {lo hi : C} {H : Hp} {Q : VK} (h : TEv K Γ (.sl a lo hi) σ H Q) : tSl (fun x lo hi H Q => rSlL K x lo hi H Q ∨ rSlA K x lo hi H Q) (TEv K Γ a) (tO K Γ lo) (tO K Γ hi) σ H Q := by
  obtain ⟨F, env, fo, r, env', fh, er, e, q⟩ := h
  unfold ev at e
  cases h1 : ev Γ a env with
  | none => rw [h1] at e; cases e
  | some z =>
    obtain ⟨ra, e1⟩ := z
    rw [h1] at e
    simp only at e
    cases hd : ra.deep with
    | true => rw [hd] at e; cases e
    | false =>
      rw [hd] at e
      simp only [Bool.false_eq_true, if_false] at e
      cases h2 : evP Γ lo e1 with
      | none => rw [h2] at e; cases e
      | some z =>
        obtain ⟨l, e2⟩ := z
        rw [h2] at e
        simp only at e
        cases h3 : evP Γ hi e2 with
        | none => rw [h3] at e; cases e
        | some z =>
          obtain ⟨u, e3⟩ := z
          rw [h3] at e
          simp only at e
          refine ⟨F, env, fo, ra, e1, fh, er, h1, fun x F1 H1 fo1 l1 p1 => ?_⟩
          refine part_rd p1.st.fh p1.er h2 fun F2 H2 fo2 s2 er2 => part_rd s2.fh er2 h3 fun F3 H3 fo3 s3 er3 => ?_
          have s23 := s2.trans s3
          have rx := p1.pend s23 fun z => by rw [hd] at z; cases z
          obtain ⟨s, n, d⟩ := pend p1.st p1.nd p1.dj (fun a ha => (rr_there p1.rr a ha).1) (s23.weak (L2 := fun a => a ∈ ([] : List Addr) ∨ ofF fo3 a) fun a z => z.elim (fun y => nomatch y) id) List.nodup_nil
          rw [List.append_nil] at s n
          refine rd_sl (σ := σ) ⟨F3, e3, fo3, ra, l1, r, env', s3.fh, er3, rx, n, d, e, fun v F' H' fo' l' p => q v F' H' fo' l' ⟨s.trans p.st, p.er, p.nd, p.dj, p.rr, fun z => nomatch z⟩⟩
theorem tyL {F H : Hp} {env : Env} {fo : Nat → List Addr} {x : V} {r : R} {l : List Addr} (fh : Same F H) (er : ER K F H σ env fo) (h : RR K F H σ x r l) (e : isListR r env = true) : tyV K "list" x H := by
  unfold isListR at e
  split at e
  · rename_i ds hd
    cases dat_rep fh er h hd with
    | lst a b => exact .inl ⟨rfl, _, a.sq⟩
  · cases e
/-- a method's call, from the left -/
theorem meth_rd {m : Mt} {o : E} {as : Es} {H : Hp} {Q : VK} (h : TEv K Γ (.meth m o as) σ H Q) : TEv K Γ o σ H fun x H1 => tyV K "list" x H1 ∧ seqT K Γ as σ H1 fun vs H2 => rdM K σ m x vs H2 Q := by
  obtain ⟨F, env, fo, r, env', fh, er, e, q⟩ := h
  unfold ev at e
  cases h1 : ev Γ o env with
  | none => rw [h1] at e; cases e
  | some z =>
    obtain ⟨r0, e1⟩ := z
    rw [h1] at e
    simp only at e
    cases hb : (isListR r0 e1 && !(r0.deep && !as.quiet)) with
    | false => rw [hb] at e; cases e
    | true =>
      rw [hb] at e
      simp only [if_true] at e
      obtain ⟨hl, hd⟩ := Bool.and_eq_true_iff.mp hb
      have hd : (r0.deep && !as.quiet) = false := by
        rw [Bool.not_eq_true'] at hd
        exact hd
      cases h2 : evs Γ as e1 with
      | none => rw [h2] at e; cases e
      | some z =>
        obtain ⟨rs, e2⟩ := z
        rw [h2] at e
        simp only at e
        refine ⟨F, env, fo, r0, e1, fh, er, h1, fun x F1 H1 fo1 l1 p1 => ⟨tyL p1.st.fh p1.er p1.rr hl, ?_⟩⟩
        refine evs_seq as F1 H1 e1 e2 fo1 rs _ p1.st.fh p1.er h2 fun vs F2 H2 fo2 l2 p2 => ?_
        obtain ⟨s, n, d⟩ := PyI.pend p1.st p1.nd p1.dj (fun a ha => (rr_there p1.rr a ha).1) p2.st p2.nd
        have rx := p1.rr.step p2.st p1.dj fun z => (p2.qt (deep_quiet hd z)).2.2
        refine ⟨F2, e2, fo2, r0, rs, l1 ++ l2, r, env', p2.st.fh, p2.er, .cons rx p2.rr, n, fun a ha => ?_, e, fun v F' H' fo' l' p => q v F' H' fo' l' ⟨s.trans p.st, p.er, p.nd, p.dj, p.rr, fun z => nomatch z⟩⟩
        rcases List.mem_append.mp ha with ha | ha
        · exact d a ha
        · exact p2.dj a ha
end
section
variable {P : List Def} {k : Nat} {N : List Str} {sc : Scope} {top : Bool} {X : Cx} {Γ : Ctx}
theorem cmpOf_rule (c : CxOk P k N sc top X) {o : Op} {op : CmpOp} (h : cmpOf o = some op) : OpR X (compareOp op) (fun x y H Q => rFl X.K o [x, y] H Q) := by
  have hu := c.room.units
  have go : ∀ {r : R2}, OpR X (compareOp op) r → (∀ x y H Q, rFl X.K o [x, y] H Q → r x y H Q) → OpR X (compareOp op) (fun x y H Q => rFl X.K o [x, y] H Q) := fun hr hq pins s σ H x y v u Q I rx ry q => hr pins s σ H x y v u Q I rx ry (hq x y H Q q)
  cases o <;> cases h
  · exact go (op_eqD hu) fun x y H Q h => rd_eq h
  · exact go (op_neD hu) fun x y H Q h => rd_ne h
  · exact go op_lt fun x y H Q h => rd_lt h
  · exact go op_le fun x y H Q h => rd_le h
  · exact go op_gt fun x y H Q h => rd_gt h
  · exact go op_ge fun x y H Q h => rd_ge h
theorem cmpOf_ne {o : Op} {op : CmpOp} (h : cmpOf o = some op) : op ≠ .In ∧ op ≠ .NotIn := by
  cases o <;> cases h <;> exact ⟨by decide, by decide⟩
theorem ok_chain (ct : CxOk P k N sc top X) {o p : Op} {o' p' : CmpOp} {a b c : E} {x y z : Expr} {pos : Pos} (h1 : cmpOf o = some o') (h2 : cmpOf p = some p') (ha : PE X x (TEv X.K Γ a)) (hb : PE X y (TEv X.K Γ b)) (hc : PE X z (TEv X.K Γ c)) :
    EOk X Γ (.Compare x [o', p'] [y, z] pos) (.chain o p a b c) := by
  have hm : lastMarks [o', p'] [y, z] = false := nobehind z (cmpOf_ne h2).1 (cmpOf_ne h2).2
  refine ⟨PE.imp (pe_chain (cmpOf_rule ct h1) (cmpOf_rule ct h2) ha hb hc hm) fun σ H Q q => chain_rd q, PT.imp (pt_chain (cmpOf_rule ct h1) (cmpOf_rule ct h2) ha hb hc hm) fun σ H Q q => ?_, fun ⟨_, _, _, e⟩ => nomatch e⟩
  exact chain_rd q.ev
def POk (X : Cx) (Γ : Ctx) (e : Option Expr) (c : C) : Prop := PO X e (tO X.K Γ c)
theorem ok_sl {a : E} {lo hi : C} {x : Expr} {l h : Option Expr} {p2 pos : Pos} (ha : PE X x (TEv X.K Γ a)) (hl : POk X Γ l lo) (hh : POk X Γ h hi) : EOk X Γ (.Subscript x (.Slice l h none p2) pos) (.sl a lo hi) := by
  have pe : PE X (.Subscript x (.Slice l h none p2) pos) (TEv X.K Γ (.sl a lo hi)) := PE.imp (pe_slice (sl_list.or sl_tupA) ha hl hh) fun σ H Q q => sl_rd q
  exact ⟨pe, pt_of pe rfl, fun ⟨_, _, _, e⟩ => nomatch e⟩
theorem base_of {o : Expr} (h : recvOk o = true) (n : Str) (env : PySem.Env) (w : Sem Value) : attributeBase o n env w = w := by
  cases o <;> first | rfl | cases h
theorem ok_meth {m : Mt} {o : E} {as : Es} {x : Expr} {args : List Expr} {apos cpos : Pos} (hr : recvOk x = true) (hl : (apos.endLine == cpos.line) = true) (hn : as.len = mtArity m) (ho : PE X x (TEv X.K Γ o)) (ha : PEs X Γ as args) :
    EOk X Γ (.Call (.Attribute x (mtName m) apos) args [] cpos) (.meth m o as) := by
  have len := pes_len ha
  have pe : PE X (.Call (.Attribute x (mtName m) apos) args [] cpos) (TEv X.K Γ (.meth m o as)) := by
    have one : ∀ {id : String} {r : V → List V → Hp → VK → Prop}, mtArity m = 1 → Slot "list" (mtName m) id → typeOf (.builtin id) = pure (.type "method_descriptor") → MtR X id r → (∀ σ v w H Q, rdM X.K σ m v [w] H Q → r v [w] H Q) →
        PE X (.Call (.Attribute x (mtName m) apos) args [] cpos) (TEv X.K Γ (.meth m o as)) := fun {id r} h1 sl ty mr hq => by
      obtain ⟨e, rfl⟩ := one_of (l := args) (by rw [← len, hn, h1])
      obtain ⟨a, rfl, pa, ns⟩ := pes1 ha
      have st := star_of ns [] X.env
      refine PE.imp (pe_bm PySem.F.plainAttrs_list sl ty mr ho (pas ha) (base_of hr _ _ _) (by rw [st]; rfl) hl st (by rfl)) fun σ H Q q => TEv.mono (meth_rd q) fun v H1 ⟨t, q1⟩ => ⟨t, ?_⟩
      exact TEv.mono q1 fun w H2 q2 => hq σ v w H2 Q q2
    have zero : ∀ {id : String} {r : V → List V → Hp → VK → Prop}, mtArity m = 0 → Slot "list" (mtName m) id → typeOf (.builtin id) = pure (.type "method_descriptor") → MtR X id r → (∀ σ v H Q, rdM X.K σ m v [] H Q → r v [] H Q) →
        PE X (.Call (.Attribute x (mtName m) apos) args [] cpos) (TEv X.K Γ (.meth m o as)) := fun {id r} h1 sl ty mr hq => by
      have hz : args = [] := List.length_eq_zero_iff.mp (by rw [← len, hn, h1])
      subst hz
      cases ha
      exact PE.imp (pe_bm0 PySem.F.plainAttrs_list sl ty mr ho (base_of hr _ _ _) hl) fun σ H Q q => TEv.mono (meth_rd q) fun v H1 ⟨t, q1⟩ => ⟨t, hq σ v H1 Q q1⟩
    cases m with
    | append => exact one rfl PySem.F.slot_list_append PySem.F.type_list_append mt_append fun σ v w H Q q => rd_append q
    | extend => exact one rfl PySem.F.slot_list_extend PySem.F.type_list_extend mt_extendX fun σ v w H Q q => rd_extend q
    | pop => exact zero rfl PySem.F.slot_list_pop PySem.F.type_list_pop mt_pop fun σ v H Q q => rd_pop q
    | popAt => exact one rfl PySem.F.slot_list_pop PySem.F.type_list_pop mt_popAt fun σ v w H Q q => rd_popAt q
    | insert =>
      obtain ⟨e1, e2, rfl⟩ := two_of (l := args) (by rw [← len, hn]; rfl)
      obtain ⟨a, b, rfl, pa, pb, n1, n2⟩ := pes2 ha
      have st := star_of n1 [e2] X.env
      have st2 := star_of n2 [] X.env
      refine PE.imp (pe_bm PySem.F.plainAttrs_list PySem.F.slot_list_insert PySem.F.type_list_insert mt_insert ho (pas ha) (base_of hr _ _ _) (by rw [st, st2]; rfl) hl st (by rw [st2]; rfl)) fun σ H Q q => TEv.mono (meth_rd q) fun v H1 ⟨t, q1⟩ => ⟨t, ?_⟩
      exact TEv.mono q1 fun w H2 q2 => TEv.mono q2 fun u H3 q3 => rd_insert q3
  exact ⟨pe, pt_of pe rfl, fun ⟨_, _, _, e⟩ => nomatch e⟩
end
end PyI

/-! Calls of the program's own defs. -/
namespace PyI
open PySem PySem.Spec PyProof.Rows L2
section
variable {K : PySem.W.Frag} {σ : L2.St} {F H F' H' : Hp} {fo : Nat → List Addr} {env : Env}
/-- a slot's tree forgotten -/
theorem ER.forget (e : ER K F H σ env fo) (i : Nat) : ER K F H σ (env.set i none) (foSet fo i []) := by
  by_cases hi : i < σ.length
  · have q := e.drop i (w := σ[i]) (.inr (List.getElem?_eq_getElem hi))
    rwa [List.set_getElem_self hi] at q
  · have q := e.drop i (w := none) (.inl rfl)
    rwa [List.set_eq_of_length_le (by omega)] at q
theorem ofF_forget {i : Nat} {a : Addr} (e : ER K F H σ env fo) (h : ofF (foSet fo i []) a) : ofF fo a ∧ a ∉ fo i := by
  obtain ⟨j, hj⟩ := h
  unfold foSet at hj
  split at hj
  · cases hj
  · rename_i c
    exact ⟨⟨j, hj⟩, e.dj j i a c hj⟩
theorem nodupB_of : ∀ {l : List Nat}, nodupB l = true → l.Nodup
  | [], _ => List.nodup_nil
  | i :: r, h => by
    unfold nodupB at h
    obtain ⟨h1, h2⟩ := Bool.and_eq_true_iff.mp h
    exact List.nodup_cons.mpr ⟨fun z => by simp [z] at h1, nodupB_of h2⟩
/-- each result's own foot -/
theorem rrs_feet : ∀ {vs : List V} {rs : List R} {l : List Addr}, RRs K F H σ vs rs l → l.Nodup → ∃ g : Nat → List Addr, (∀ i r, rs[i]? = some r → ∃ v, vs[i]? = some v ∧ RR K F H σ v r (g i)) ∧ (∀ i, (g i).Nodup) ∧ (∀ i a, a ∈ g i → a ∈ l) ∧ ∀ i j a, i ≠ j → a ∈ g i → a ∉ g j
  | _, _, _, .nil, _ => ⟨fun _ => [], fun i r h => by simp at h, fun _ => List.nodup_nil, (fun _ _ h => nomatch h), (fun _ _ _ _ h => nomatch h)⟩
  | _, _, _, .cons (l := l1) (m := l2) h1 h2, nd => by
    obtain ⟨n1, n2, n3⟩ := List.nodup_append.mp nd
    obtain ⟨g, g1, g2, g3, g4⟩ := rrs_feet h2 n2
    refine ⟨fun i => match i with | 0 => l1 | i + 1 => g i, fun i r h => ?_, fun i => ?_, fun i a h => ?_, fun i j a hij h1 h2 => ?_⟩
    · cases i with
      | zero => cases h; exact ⟨_, rfl, h1⟩
      | succ i => exact g1 i r (by simpa using h)
    · cases i with
      | zero => exact n1
      | succ i => exact g2 i
    · cases i with
      | zero => exact List.mem_append_left _ h
      | succ i => exact List.mem_append_right _ (g3 i a h)
    · cases i with
      | zero =>
        cases j with
        | zero => exact hij rfl
        | succ j => exact n3 a h1 a (g3 j a h2) rfl
      | succ i =>
        cases j with
        | zero => exact n3 a h2 a (g3 i a h1) rfl
        | succ j => exact g4 i j a (fun z => hij (by rw [z])) h1 h2
theorem pick_rep {vs : List V} {rs : List R} {g : Nat → List Addr} (g1 : ∀ i r, rs[i]? = some r → ∃ v, vs[i]? = some v ∧ RR K F H σ v r (g i)) (g2 : ∀ i, (g i).Nodup) (g4 : ∀ i j a, i ≠ j → a ∈ g i → a ∉ g j) :
    ∀ (perm : List Nat) (qs : List R), perm.Nodup → pick rs perm = some qs → ∃ ws l, pick vs perm = some ws ∧ RRs K F H σ ws qs l ∧ l.Nodup ∧ ∀ a ∈ l, ∃ i ∈ perm, a ∈ g i
  | [], qs, _, h => by
    cases h
    exact ⟨[], [], rfl, .nil, List.nodup_nil, fun _ z => nomatch z⟩
  | i :: is, qs, nd, h => by
    obtain ⟨n1, n2⟩ := List.nodup_cons.mp nd
    unfold pick at h
    cases hr : rs[i]? with
    | none => rw [hr] at h; cases h
    | some r =>
      rw [hr] at h
      obtain ⟨qs', e1, e2⟩ := Option.map_eq_some_iff.mp h
      cases e2
      obtain ⟨ws, l, p1, p2, p3, p4⟩ := pick_rep g1 g2 g4 is qs' n2 e1
      obtain ⟨v, hv, hrr⟩ := g1 i r hr
      refine ⟨v :: ws, g i ++ l, by unfold pick; rw [hv, p1]; rfl, .cons hrr p2, List.nodup_append.mpr ⟨g2 i, p3, fun a ha b hb e => ?_⟩, fun a ha => ?_⟩
      · subst e
        obtain ⟨j, hj, hb⟩ := p4 a hb
        exact g4 i j a (fun z => n1 (z ▸ hj)) ha hb
      · rcases List.mem_append.mp ha with ha | ha
        · exact ⟨i, List.mem_cons_self, ha⟩
        · obtain ⟨j, hj, hb⟩ := p4 a ha
          exact ⟨j, List.mem_cons_of_mem _ hj, hb⟩
theorem rrs_append : ∀ {vs ws : List V} {rs qs : List R} {l m : List Addr}, RRs K F H σ vs rs l → RRs K F H σ ws qs m → RRs K F H σ (vs ++ ws) (rs ++ qs) (l ++ m)
  | _, _, _, _, _, _, .nil, h => h
  | _, _, _, _, _, _, .cons a b, h => by rw [List.append_assoc]; exact .cons a (rrs_append b h)
theorem noDeep_pick {rs : List R} : ∀ {perm : List Nat} {qs : List R}, anyDeep rs = false → pick rs perm = some qs → anyDeep qs = false
  | [], _, _, h => by cases h; rfl
  | i :: is, qs, hd, h => by
    unfold pick at h
    cases hr : rs[i]? with
    | none => rw [hr] at h; cases h
    | some r =>
      rw [hr] at h
      obtain ⟨qs', e1, e2⟩ := Option.map_eq_some_iff.mp h
      cases e2
      have aux : ∀ (rs : List R) (i : Nat), anyDeep rs = false → rs[i]? = some r → r.deep = false := by
        intro rs
        induction rs with
        | nil => intro i _ h; simp at h
        | cons s rs ih =>
          intro i hd h
          unfold anyDeep at hd
          obtain ⟨h1, h2⟩ := Bool.or_eq_false_iff.mp hd
          cases i with
          | zero => cases h; exact h1
          | succ i => exact ih i h2 (by simpa using h)
      show (r.deep || anyDeep qs') = false
      rw [aux rs i hd hr, noDeep_pick hd e1]
      rfl
/-- lists that the callee must not hold are shared -/
theorem prep_rep {keep : Nat → Bool} : ∀ {vs : List V} {rs qs : List R} {l : List Addr} {j : Nat} {F : Hp} {fo : Nat → List Addr} {env env1 : Env}, Same F H → ER K F H σ env fo → RRs K F H σ vs rs l → (∀ a ∈ l, ¬ ofF fo a) → prepArgs keep j rs env = some (qs, env1) →
    ∃ F1 fo1, Step F H (ofF fo) F1 H (ofF fo1) ∧ ER K F1 H σ env1 fo1 ∧ RRs K F1 H σ vs qs l ∧ (∀ a, ofF fo1 a → ofF fo a) ∧ anyDeep qs = false
  | _, _, _, _, j, F, fo, env, env1, fh, er, .nil, dj, h => by
    unfold prepArgs at h
    cases h
    exact ⟨F, fo, .refl fh fun _ z => z, er, .nil, fun _ z => z, rfl⟩
  | v :: vs, r :: rs, qs, _, j, F, fo, env, env1, fh, er, .cons (l := l1) (m := l2) h1 h2, dj, h => by
    cases r with
    | own t =>
      unfold prepArgs at h
      cases hp : prepArgs keep (j + 1) rs env with
      | none => rw [hp] at h; cases h
      | some z =>
        obtain ⟨qs', e⟩ := z
        rw [hp] at h
        cases h
        obtain ⟨F1, fo1, s, er1, rr, sub, nd⟩ := prep_rep fh er h2 (fun a ha => dj a (List.mem_append_right _ ha)) hp
        exact ⟨F1, fo1, s, er1, .cons (h1.step s (fun a ha => dj a (List.mem_append_left _ ha)) fun z => nomatch z) rr, sub, by unfold anyDeep; rw [nd]; rfl⟩
    | al i p =>
      cases p with
      | cons _ _ => unfold prepArgs at h; cases h
      | nil =>
        unfold prepArgs at h
        by_cases hk : keep j = true
        · rw [if_pos hk] at h
          cases hp : prepArgs keep (j + 1) rs env with
          | none => rw [hp] at h; cases h
          | some z =>
            obtain ⟨qs', e⟩ := z
            rw [hp] at h
            cases h
            obtain ⟨F1, fo1, s, er1, rr, sub, nd⟩ := prep_rep fh er h2 (fun a ha => dj a (List.mem_append_right _ ha)) hp
            exact ⟨F1, fo1, s, er1, .cons (h1.step s (fun a ha => dj a (List.mem_append_left _ ha)) fun z => nomatch z) rr, sub, by unfold anyDeep; rw [nd]; rfl⟩
        · rw [if_neg hk] at h
          cases hq : env[i]? with
          | none => rw [hq] at h; cases h
          | some o =>
            cases o with
            | none => rw [hq] at h; cases h
            | some t =>
              rw [hq] at h
              simp only at h
              cases hp : prepArgs keep (j + 1) rs (env.set i (some (.leaf t.dat))) with
              | none => rw [hp] at h; cases h
              | some z =>
                obtain ⟨qs', e⟩ := z
                rw [hp] at h
                cases h
                have l0 : l1 = [] := by cases h1; rfl
                subst l0
                obtain ⟨F1, fo1, k1, s1, er1, o1, n1, d1, sb, sf, len⟩ := take_rep (t := .leaf t.dat) (env' := env.set i (some (.leaf t.dat))) fh er h1 List.nodup_nil (fun _ z => nomatch z) (by unfold R.take; simp only [hq])
                have s1' : Step F H (ofF fo) F1 H (ofF fo1) := (s1.sub fun a z => z.elim (fun y => nomatch y) id).weak fun a z => .inr z
                obtain ⟨F2, fo2, s2, er2, rr, sub, nd⟩ := prep_rep s1.fh er1 (h2.step s1' (fun a ha => dj a (by simpa using ha)) fun _ => Same.refl H) (fun a ha z => dj a (by simpa using ha) (sf a z)) hp
                have o2 : OR K F2 H v (.leaf t.dat) [] := by
                  cases o1 with | leaf o1 => exact .leaf (dp_mono s2.fs _ _ o1)
                exact ⟨F2, fo2, s1'.trans s2, er2, .cons (.own o2) rr, fun a z => sf a (sub a z), by unfold anyDeep; rw [nd]; rfl⟩
/-- what is handed over, with its foot -/
theorem args_rep (er : ER K F H σ env fo) : ∀ {vs : List V} {qs : List R} {l : List Addr} {ts : List OT}, RRs K F H σ vs qs l → l.Nodup → (∀ a ∈ l, ¬ ofF fo a) → (lent qs).Nodup → anyDeep qs = false → argTrees env qs = some ts →
    ∃ L, ORs K F H vs ts L ∧ L.Nodup ∧ ∀ a ∈ L, a ∈ l ∨ ∃ i ∈ lent qs, a ∈ fo i
  | _, _, _, ts, .nil, _, _, _, _, h => by
    unfold argTrees at h
    cases h
    exact ⟨[], .nil, List.nodup_nil, fun _ z => nomatch z⟩
  | _, r :: qs, _, ts, .cons (l := l1) (m := l2) h1 h2, nd, dj, nl, hd, h => by
    obtain ⟨n1, n2, n3⟩ := List.nodup_append.mp nd
    unfold argTrees at h
    cases hr : r.tree env with
    | none => rw [hr] at h; cases h
    | some t =>
      rw [hr] at h
      obtain ⟨ts', e1, e2⟩ := Option.map_eq_some_iff.mp h
      cases e2
      unfold anyDeep at hd
      obtain ⟨hd1, hd2⟩ := Bool.or_eq_false_iff.mp hd
      cases r with
      | own t0 =>
        cases hr
        obtain ⟨L, q1, q2, q3⟩ := args_rep er h2 n2 (fun a ha => dj a (List.mem_append_right _ ha)) nl hd2 e1
        cases h1 with
        | own h1 =>
          refine ⟨l1 ++ L, .cons h1 q1, List.nodup_append.mpr ⟨n1, q2, fun a ha b hb e => ?_⟩, fun a ha => ?_⟩
          · subst e
            rcases q3 a hb with z | ⟨i, _, z⟩
            · exact n3 a ha a z rfl
            · exact dj a (List.mem_append_left _ ha) ⟨i, z⟩
          · rcases List.mem_append.mp ha with ha | ha
            · exact .inl (List.mem_append_left _ ha)
            · exact (q3 a ha).imp (List.mem_append_right _) id
      | al i p =>
        cases p with
        | cons _ _ => cases hd1
        | nil =>
          obtain ⟨ni, nl'⟩ := List.nodup_cons.mp (show (i :: lent qs).Nodup from nl)
          obtain ⟨L, q1, q2, q3⟩ := args_rep er h2 n2 (fun a ha => dj a (List.mem_append_right _ ha)) nl' hd2 e1
          have l0 : l1 = [] := by cases h1; rfl
          subst l0
          cases h1 with
          | al w =>
            obtain ⟨v0, hv, hw⟩ := w
            have hw' : v0 = _ := hw
            subst hw'
            have hq : env[i]? = some (some t) := by
              replace hr : Env.look env i [] = some t := hr
              unfold Env.look at hr
              split at hr
              · rename_i t0 q
                have : t0 = t := Option.some.inj (by cases t0 <;> exact hr)
                rw [q, this]
              · cases hr
            obtain ⟨v1, g1, g2⟩ := er.rep i t hq
            rw [hv] at g1; cases g1
            refine ⟨fo i ++ L, .cons g2 q1, List.nodup_append.mpr ⟨er.nd i, q2, fun a ha b hb e => ?_⟩, fun a ha => ?_⟩
            · subst e
              rcases q3 a hb with z | ⟨j, hj, z⟩
              · exact dj a (by simpa using z) ⟨i, ha⟩
              · exact er.dj i j a (fun y => ni (y ▸ hj)) ha z
            · rcases List.mem_append.mp ha with ha | ha
              · exact .inr ⟨i, List.mem_cons_self, ha⟩
              · rcases q3 a ha with z | ⟨j, hj, z⟩
                · exact .inl (by simpa using z)
                · exact .inr ⟨j, List.mem_cons_of_mem _ hj, z⟩
/-- the lent slots emptied -/
theorem dropLent_rep : ∀ {qs : List R} {fo : Nat → List Addr} {env : Env}, ER K F H σ env fo → ∃ foD, ER K F H σ (dropLent qs env) foD ∧ ∀ a, ofF foD a → ofF fo a ∧ ∀ i ∈ lent qs, a ∉ fo i
  | [], fo, env, er => ⟨fo, er, fun a h => ⟨h, fun _ z => nomatch z⟩⟩
  | .own t :: qs, fo, env, er => dropLent_rep (qs := qs) er
  | .al i p :: qs, fo, env, er => by
    obtain ⟨foD, e1, e2⟩ := dropLent_rep (qs := qs) (er.forget i)
    refine ⟨foD, e1, fun a h => ?_⟩
    obtain ⟨g1, g2⟩ := e2 a h
    obtain ⟨w1, w2⟩ := ofF_forget er g1
    refine ⟨w1, fun j hj => ?_⟩
    rcases List.mem_cons.mp (show j ∈ i :: lent qs from hj) with z | z
    · rw [z]; exact w2
    · intro y
      by_cases c : j = i
      · rw [c] at y; exact w2 y
      · exact g2 j z (by unfold foSet; rw [if_neg c]; exact y)
/-- .. and filled with what came back -/
theorem giveBack_rep {M : Addr → Prop} : ∀ {vs : List V} {qs : List R} {l : List Addr} {fin : List (Option OT)} {g : Nat → List Addr} {fo : Nat → List Addr} {env : Env} {F0 H0 : Hp}, RRs K F0 H0 σ vs qs l → anyDeep qs = false → ER K F H σ env fo → (∀ i ∈ lent qs, i < env.length) →
    (∀ n t v, fin[n]? = some (some t) → vs[n]? = some v → OR K F H v t (g n)) → (∀ n, (g n).Nodup) → (∀ n m a, n ≠ m → a ∈ g n → a ∉ g m) → (∀ n a, a ∈ g n → ¬ ofF fo a) → (∀ n a, a ∈ g n → M a) → fin.length = qs.length →
    ∃ fo', ER K F H σ (giveBack qs fin env) fo' ∧ ∀ a, ofF fo' a → ofF fo a ∨ M a
  | _, [], _, fin, g, fo, env, _, _, .nil, _, er, _, _, _, _, _, _, _ => ⟨fo, by unfold giveBack; exact er, fun a h => .inl h⟩
  | _, r :: qs, _, [], g, fo, env, _, _, _, _, er, _, _, _, _, _, _, hl => by cases hl
  | v :: vs, .own t0 :: qs, _, t :: fin, g, fo, env, _, _, .cons h1 h2, hd, er, hi, f1, f2, f3, f4, f5, hl => by
    unfold anyDeep at hd
    obtain ⟨_, hd2⟩ := Bool.or_eq_false_iff.mp hd
    show ∃ fo', ER K F H σ (giveBack qs fin env) fo' ∧ _
    exact giveBack_rep (M := M) (g := fun n => g (n + 1)) h2 hd2 er hi (fun n t v a b => f1 (n + 1) t v (by simpa using a) (by simpa using b)) (fun n => f2 (n + 1)) (fun n m a c => f3 (n + 1) (m + 1) a (fun z => c (Nat.succ.inj z))) (fun n => f4 (n + 1)) (fun n => f5 (n + 1)) (Nat.succ.inj hl)
  | v :: vs, .al i p :: qs, _, t :: fin, g, fo, env, _, _, .cons h1 h2, hd, er, hi, f1, f2, f3, f4, f5, hl => by
    unfold anyDeep at hd
    obtain ⟨hd1, hd2⟩ := Bool.or_eq_false_iff.mp hd
    cases p with
    | cons _ _ => cases hd1
    | nil =>
      have hi0 : i < env.length := hi i (List.mem_cons_self (l := lent qs))
      cases h1 with
      | al w =>
        obtain ⟨v0, hv, hw⟩ := w
        have hw' : v0 = v := hw
        subst hw'
        show ∃ fo', ER K F H σ (giveBack qs fin (env.set i t)) fo' ∧ _
        cases t with
        | none =>
          obtain ⟨fo', q1, q2⟩ := giveBack_rep (M := M) (g := fun n => g (n + 1)) h2 hd2 (er.forget i) (fun j hj => by simpa using hi j (List.mem_cons_of_mem _ hj)) (fun n t v a b => f1 (n + 1) t v (by simpa using a) (by simpa using b)) (fun n => f2 (n + 1)) (fun n m a c => f3 (n + 1) (m + 1) a (fun z => c (Nat.succ.inj z))) (fun n a ha z => f4 (n + 1) a ha (ofF_forget er z).1) (fun n => f5 (n + 1)) (Nat.succ.inj hl)
          exact ⟨fo', q1, fun a h => (q2 a h).imp (fun z => (ofF_forget er z).1) id⟩
        | some t' =>
          have o0 := f1 0 t' v0 rfl rfl
          have er1 := er.re (i := i) hi0 hv o0 (f2 0) (fun a ha j hj z => f4 0 a ha ⟨j, z⟩)
          have sub : ∀ a, ofF (foSet fo i (g 0)) a → a ∈ g 0 ∨ ofF fo a := fun a h => ofF_set h
          obtain ⟨fo', q1, q2⟩ := giveBack_rep (M := M) (g := fun n => g (n + 1)) h2 hd2 er1 (fun j hj => by simpa using hi j (List.mem_cons_of_mem _ hj)) (fun n t v a b => f1 (n + 1) t v (by simpa using a) (by simpa using b)) (fun n => f2 (n + 1)) (fun n m a c => f3 (n + 1) (m + 1) a (fun z => c (Nat.succ.inj z))) (fun n a ha z => (sub a z).elim (fun y => f3 (n + 1) 0 a (Nat.succ_ne_zero n) ha y) (f4 (n + 1) a ha)) (fun n => f5 (n + 1)) (Nat.succ.inj hl)
          exact ⟨fo', q1, fun a h => (q2 a h).elim (fun z => (sub a z).elim (fun y => .inr (f5 0 a y)) .inl) .inr⟩
end
end PyI

namespace PyI
open PySem PySem.Spec PyProof.Rows L2
section
variable {K : PySem.W.Frag} {σ : L2.St} {P : List Def} {k : Nat}
theorem run_len {f : Nat} {d : Def} {ts : List OT} {q : OT × List (Option OT)} (hd : P[f]? = some d) (h : run P k f ts = some q) : ts.length = d.n := by
  cases k with
  | zero => cases h
  | succ k =>
    unfold run at h
    rw [hd] at h
    simp only at h
    unfold runDef at h
    split at h
    · assumption
    · cases h
theorem argTrees_len {env : Env} : ∀ {qs : List R} {ts : List OT}, argTrees env qs = some ts → ts.length = qs.length
  | [], ts, h => by cases h; rfl
  | r :: qs, ts, h => by
    unfold argTrees at h
    cases hr : r.tree env with
    | none => rw [hr] at h; cases h
    | some t =>
      rw [hr] at h
      obtain ⟨ts', e1, e2⟩ := Option.map_eq_some_iff.mp h
      cases e2
      show _ + 1 = _ + 1
      rw [argTrees_len e1]
theorem lent_lt {F H : Hp} {env : Env} {fo : Nat → List Addr} (er : ER K F H σ env fo) : ∀ {vs : List V} {qs : List R} {l : List Addr}, RRs K F H σ vs qs l → ∀ i ∈ lent qs, i < env.length
  | _, _, _, .nil, _, h => nomatch h
  | _, .own _ :: qs, _, .cons a b, i, h => lent_lt er b i h
  | _, .al j _ :: qs, _, .cons a b, i, h => by
    rcases List.mem_cons.mp (show i ∈ j :: lent qs from h) with z | z
    · subst z
      cases a with
      | al w =>
        obtain ⟨v0, hv, _⟩ := w
        have := (List.getElem?_eq_some_iff.mp hv).1
        rw [er.len] at this
        exact this
    · exact lent_lt er b i z
theorem dropLent_len : ∀ (qs : List R) (env : Env), (dropLent qs env).length = env.length
  | [], _ => rfl
  | .own _ :: qs, env => dropLent_len qs env
  | .al i _ :: qs, env => by
    show (dropLent qs (env.set i none)).length = _
    rw [dropLent_len qs]
    simp
/-- the call itself, the results at hand -/
theorem callSem_rd {f : Nat} {d : Def} {F H : Hp} {env env' : Env} {fo : Nat → List Addr} {ws : List V} {qs : List R} {l : List Addr} {r : R} {Q : VK} (hd : P[f]? = some d) (fh : Same F H) (er : ER K F H σ env fo) (rr : RRs K F H σ ws qs l) (nd : l.Nodup) (dj : ∀ a ∈ l, ¬ ofF fo a)
    (e : callSem (ctxOf P k) f qs env = some (r, env')) (q : ∀ v F' H' fo' l', Post K σ F H l fo false env r env' v F' H' fo' l' → Q v H') : spF P K k f d.n ws H Q := by
  unfold callSem at e
  cases h1 : prepArgs ((ctxOf P k).keep f) 0 qs env with
  | none => rw [h1] at e; cases e
  | some z =>
    obtain ⟨ps, env1⟩ := z
    rw [h1] at e
    simp only at e
    cases hb : nodupB (lent ps) with
    | false => rw [hb] at e; cases e
    | true =>
      rw [hb] at e
      simp only [if_true] at e
      cases h2 : argTrees env1 ps with
      | none => rw [h2] at e; cases e
      | some ts =>
        rw [h2] at e
        simp only at e
        cases h3 : run P k f ts with
        | none => rw [h3] at e; cases e
        | some z =>
          obtain ⟨t, fin⟩ := z
          rw [h3] at e
          simp only at e
          by_cases hl : fin.length = ts.length
          · rw [if_pos hl] at e
            cases e
            obtain ⟨F1, fo1, s1, er1, rr1, sub1, nd1⟩ := prep_rep fh er rr dj h1
            have dj1 : ∀ a ∈ l, ¬ ofF fo1 a := fun a ha z => dj a ha (sub1 a z)
            obtain ⟨L, o1, nL, inL⟩ := args_rep er1 rr1 nd dj1 (nodupB_of hb) nd1 h2
            have len1 := run_len hd h3
            refine ⟨by rw [rr1.length, ← argTrees_len h2, len1], F1, ts, L, t, fin, s1.fh, o1, nL, h3, fun v F' H' m fo' sc om nm dm erc => ?_⟩
            obtain ⟨foD, erD, subD⟩ := dropLent_rep (qs := ps) er1
            have outD : ∀ a, ofF foD a → a ∉ L := fun a h z => by
              obtain ⟨w1, w2⟩ := subD a h
              rcases inL a z with y | ⟨i, hi, y⟩
              · exact dj1 a y w1
              · exact w2 i hi y
            have erD' := erD.step sc outD
            have outC : ∀ n a, a ∈ fo' n → ¬ ofF foD a := fun n a ha z => by
              rcases sc.own a (.inr ⟨n, ha⟩) with y | y
              · exact outD a z y
              · obtain ⟨⟨o, w⟩, _⟩ := erD.there z
                rw [w] at y; cases y
            obtain ⟨fo2, er2, sub2⟩ := giveBack_rep (M := ofF fo') (g := fo') (fin := fin) rr1 nd1 erD' (fun i hi => by rw [dropLent_len]; exact lent_lt er1 rr1 i hi) (fun n t v a b => by
              obtain ⟨v', g1, g2⟩ := erc.rep n t a
              rw [List.getElem?_map, b] at g1
              cases g1
              exact g2) (fun n => erc.nd n) (fun n m a c => erc.dj n m a c) outC (fun n a ha => ⟨n, ha⟩) (by rw [hl]; exact argTrees_len h2)
            refine q v F' H' fo2 m ⟨?_, er2, nm, fun a ha z => ?_, .own om, fun z => nomatch z⟩
            · have sL : Step F1 H (fun a => a ∈ l ∨ ofF fo1 a) F' H' (fun a => a ∈ m ∨ ofF fo2 a) := ⟨sc.fs, sc.fh, fun b o hb hn => sc.keep b o hb fun z => hn ((inL b z).imp id fun ⟨i, _, y⟩ => ⟨i, y⟩), sc.dom, fun a z => by
                have fromL : ∀ a, a ∈ L → a ∈ l ∨ ofF fo1 a := fun a z => (inL a z).imp id fun ⟨i, _, y⟩ => ⟨i, y⟩
                rcases z with z | z
                · exact (sc.own a (.inl z)).imp (fromL a) id
                · rcases sub2 a z with y | y
                  · exact .inl (.inr (subD a y).1)
                  · exact (sc.own a (.inr y)).imp (fromL a) id⟩
              exact (s1.frame (M := fun a => a ∈ l) (fun a ha => dj a ha) fun a ha => by
                obtain ⟨g, g1, _, g3, _⟩ := rrs_feet rr nd
                have aux : ∀ {vs : List V} {rs : List R} {l : List Addr}, RRs K F H σ vs rs l → ∀ a ∈ l, ∃ o, H a = some o := by
                  intro vs rs l h
                  induction h with
                  | nil => intro a ha; cases ha
                  | cons h1 h2 ih =>
                    intro a ha
                    rcases List.mem_append.mp ha with ha | ha
                    · exact (rr_there h1 a ha).1
                    · exact ih a ha
                exact aux rr a ha).trans sL
            · rcases sub2 a z with y | y
              · rcases sc.own a (.inl ha) with w | w
                · exact outD a y w
                · obtain ⟨⟨o, u⟩, _⟩ := erD.there y
                  rw [u] at w; cases w
              · exact dm a ha y
          · rw [if_neg hl] at e; cases e
theorem call_rd {f : Nat} {d : Def} {as kw : Es} {perm : List Nat} {H : Hp} {Q : VK} (hd : P[f]? = some d) (h : TEv K (ctxOf P k) (.call f as kw perm) σ H Q) :
    seqT K (ctxOf P k) as σ H fun vs H1 => seqT K (ctxOf P k) kw σ H1 fun zs H2 => ∃ ws, pick (vs ++ zs) perm = some ws ∧ spF P K k f d.n ws H2 Q := by
  obtain ⟨F, env, fo, r, env', fh, er, e, q⟩ := h
  unfold ev at e
  cases h1 : evs (ctxOf P k) as env with
  | none => rw [h1] at e; cases e
  | some z =>
    obtain ⟨rs, e1⟩ := z
    rw [h1] at e
    simp only at e
    cases hd1 : anyDeep rs with
    | true => rw [hd1] at e; cases e
    | false =>
      rw [hd1] at e
      simp only [Bool.false_eq_true, if_false] at e
      cases h2 : evs (ctxOf P k) kw e1 with
      | none => rw [h2] at e; cases e
      | some z =>
        obtain ⟨ks, e2⟩ := z
        rw [h2] at e
        simp only at e
        cases hd2 : anyDeep ks with
        | true => rw [hd2] at e; cases e
        | false =>
          rw [hd2] at e
          simp only [Bool.false_eq_true, if_false] at e
          cases h3 : pick (rs ++ ks) perm with
          | none => rw [h3] at e; cases e
          | some qs =>
            rw [h3] at e
            simp only at e
            cases hn : nodupB perm with
            | false => rw [hn] at e; cases e
            | true =>
              rw [hn] at e
              simp only [if_true] at e
              refine evs_seq as F H env e1 fo rs _ fh er h1 fun vs F1 H1 fo1 l1 p1 => ?_
              refine evs_seq kw F1 H1 e1 e2 fo1 ks _ p1.st.fh p1.er h2 fun zs F2 H2 fo2 l2 p2 => ?_
              have th : ∀ a ∈ l1, ∃ o, H1 a = some o := by
                have aux : ∀ {vs : List V} {rs : List R} {l : List Addr}, RRs K F1 H1 σ vs rs l → ∀ a ∈ l, ∃ o, H1 a = some o := by
                  intro vs rs l h
                  induction h with
                  | nil => intro a ha; cases ha
                  | cons h1 h2 ih =>
                    intro a ha
                    rcases List.mem_append.mp ha with ha | ha
                    · exact (rr_there h1 a ha).1
                    · exact ih a ha
                exact aux p1.rr
              have s1 : Step F H (fun a => a ∈ ([] : List Addr) ∨ ofF fo a) F1 H1 (fun a => a ∈ l1 ∨ ofF fo1 a) := p1.st.sub fun a z => .inr z
              obtain ⟨s, n, dd⟩ := PyI.pend s1 p1.nd p1.dj th p2.st p2.nd
              have rr1 := p1.rr.step p2.st p1.dj fun z => by rw [hd1] at z; cases z
              have rr := rrs_append rr1 p2.rr
              obtain ⟨g, g1, g2, g3, g4⟩ := rrs_feet rr n
              obtain ⟨ws, l, w1, w2, w3, w4⟩ := pick_rep g1 g2 g4 perm qs (nodupB_of hn) h3
              refine ⟨ws, w1, ?_⟩
              have inl : ∀ a ∈ l, a ∈ l1 ++ l2 := fun a ha => by obtain ⟨i, _, z⟩ := w4 a ha; exact g3 i a z
              refine callSem_rd hd p2.st.fh p2.er w2 w3 (fun a ha => ?_) e fun v F' H' fo' l' p => q v F' H' fo' l' ⟨?_, p.er, p.nd, p.dj, p.rr, fun z => nomatch z⟩
              · rcases List.mem_append.mp (inl a ha) with z | z
                · exact dd a z
                · exact p2.dj a z
              · exact s.trans (p.st.sub fun a z => z.imp (inl a) id)
end
section
variable {P : List Def} {k : Nat} {N : List Str} {sc : Scope} {top : Bool} {X : Cx} {Γ : Ctx}
theorem kwNames_of : ∀ {kws : List Keyword} {ks : List Str} (pos : Pos) (env : PySem.Env), kwNames kws = some ks → (backToKw pos (keywordEach kws env)).all (·.1.isSome) = true ∧ (backToKw pos (keywordEach kws env)).filterMap (·.1) = ks ∧ (backToKw pos (keywordEach kws env)).any (·.1.isNone) = false
  | [], ks, pos, env, h => by cases h; exact ⟨rfl, rfl, rfl⟩
  | ⟨some x, e, p⟩ :: r, ks, pos, env, h => by
    unfold kwNames at h
    obtain ⟨ks', e1, e2⟩ := Option.map_eq_some_iff.mp h
    cases e2
    obtain ⟨h1, h2, h3⟩ := kwNames_of pos env e1
    refine ⟨?_, ?_, ?_⟩
    · show (true && _) = true
      rw [Bool.true_and]; exact h1
    · show x :: (backToKw pos (keywordEach r env)).filterMap (·.1) = x :: ks'
      rw [h2]
    · show (false || _) = false
      rw [Bool.false_or]; exact h3
  | ⟨none, e, p⟩ :: r, ks, pos, env, h => by cases h
/-- the keywords' values -/
inductive PKs (X : Cx) (Γ : Ctx) : Es → List Keyword → Prop
  | nil : PKs X Γ .nil []
  | cons {a : E} {as : Es} {n : Option Str} {e : Expr} {p : Pos} {es : List Keyword} : PE X e (TEv X.K Γ a) → PKs X Γ as es → PKs X Γ (.cons a as) (⟨n, e, p⟩ :: es)
theorem pks {as : Es} {es : List Keyword} (h : PKs X Γ as es) : PK X es (fun σ H Q => seqT X.K Γ as σ H Q) := by
  induction h with
  | nil => exact pk_nil
  | cons h1 _ ih => exact pk_cons h1 ih
theorem pks_len {as : Es} {es : List Keyword} (h : PKs X Γ as es) : as.len = es.length := by
  induction h with
  | nil => rfl
  | cons _ _ ih => show _ + 1 = _ + 1; rw [ih]
theorem kwNames_len : ∀ {kws : List Keyword} {ks : List Str}, kwNames kws = some ks → ks.length = kws.length
  | [], _, h => by cases h; rfl
  | ⟨some x, e, p⟩ :: r, ks, h => by
    unfold kwNames at h
    obtain ⟨ks', e1, e2⟩ := Option.map_eq_some_iff.mp h
    cases e2
    show _ + 1 = _ + 1
    rw [kwNames_len e1]
  | ⟨none, e, p⟩ :: r, _, h => by cases h
theorem pick_vals {vs : List V} {us : List Value} (r : Vals vs us) : ∀ (perm : List Nat) (ws : List V), pick vs perm = some ws → ∃ xs, pick us perm = some xs ∧ Vals ws xs
  | [], ws, h => by cases h; exact ⟨[], rfl, .nil⟩
  | i :: is, ws, h => by
    unfold pick at h
    cases hr : vs[i]? with
    | none => rw [hr] at h; cases h
    | some v =>
      rw [hr] at h
      obtain ⟨ws', e1, e2⟩ := Option.map_eq_some_iff.mp h
      cases e2
      obtain ⟨u, hu, ru⟩ := r.get hr
      obtain ⟨xs, x1, x2⟩ := pick_vals r is ws' e1
      exact ⟨u :: xs, by unfold pick; rw [hu, x1]; rfl, .cons ru x2⟩
theorem run_fnG {pins : List (Addr × Obj)} {σ : L2.St} {H : Hp} {s : Shared} {Q : VK} {a : Addr} {fd : FuncData} {n : Nat} {ps ks : List Str} {sp : List V → Hp → VK → Prop} {us ws vals : List Value} {vs : List V} (F : FnG X.prog X.w X.K X.mg X.base k a fd n sp ps) (hr : Room k X.A) (hg : X.A.guards = some []) (hxe : X.xe = fun _ _ => False)
    (I : Inv X pins σ H s) (hb : BindsTo s fd ⟨us, ks.zip ws⟩ (ps.zip vals)) (r : Vals vs vals) (h : sp vs H Q) : wpAny (model X.prog X.w) X.A (call (.ref a) us (ks.zip ws)) (EP X pins σ Q) X.xe s := by
  refine wpAny_call (codeAny_mono (F.run X.A X.stack s H ⟨us, ks.zip ws⟩ vals vs Q hg hr I.env0 hb r h) fun r s' hq => ?_)
  cases r with
  | error e => exact False.elim hq
  | ok fl =>
    cases fl with
    | ret u => exact I.after hq
    | next => exact False.elim hq
    | brk => exact False.elim hq
    | cont => exact False.elim hq
theorem ok_call (c : CxOk P k N sc top X) {f : Nat} {d : Def} {as kw : Es} {perm : List Nat} {x : Str} {p pos : Pos} {args : List Expr} {kws : List Keyword} {ks : List Str} (hd : P[f]? = some d) (hcn : d.const = none) (hk : kwNames kws = some ks) (hx : d.name = x) (hgl : glB sc x = true) (hpl : plainNm x = true)
    (hin : (args.length, ks) ∈ d.kws) (hp : perm = permOf d args.length ks) (ha : PEs X (ctxOf P k) as args) (hkw : PKs X (ctxOf P k) kw kws) : EOk X (ctxOf P k) (.Call (.Name x p) args kws pos) (.call f as kw perm) := by
  obtain ⟨a, fd, hm, kp, db, fg⟩ := c.fns f d hd hcn
  subst hx hp
  unfold plainNm at hpl
  simp only [Bool.and_eq_true, Bool.not_eq_true'] at hpl
  obtain ⟨n1, n2, n3⟩ := kwNames_of pos X.env hk
  have fin : ∀ {pins : List (Addr × Obj)} {σ : L2.St} {H : Hp} {s : Shared} {Q : VK} {vs zs : List V} {us ws : List Value}, Inv X pins σ H s → Vals vs us → Vals zs ws → vs.length = args.length → zs.length = kws.length → (∃ qs, pick (vs ++ zs) (permOf d args.length ks) = some qs ∧ spF P X.K k f d.n qs H Q) →
      wpAny (model X.prog X.w) X.A (call (.ref a) us (ks.zip ws)) (EP X pins σ Q) X.xe s := fun {pins σ H s Q vs zs us ws} I r rz lv lz ⟨qs, hq, hs⟩ => by
    obtain ⟨vals, v1, v2⟩ := pick_vals (r.append rz) _ _ hq
    exact run_fnG fg c.room c.gd c.xe I (db.to s args.length ks us ws vals hin (by rw [← r.length]; exact lv) (by rw [← rz.length, lz, kwNames_len hk]) v1) v2 hs
  have pe : PE X (.Call (.Name d.name p) args kws pos) (TEv X.K (ctxOf P k) (.call f as kw (permOf d args.length ks))) := by
    refine ⟨fun pins s σ H Q I h => ?_⟩
    have h := seqT_mono (seqT_len (call_rd hd h)) fun vs H1 q => (⟨q.1, seqT_len q.2⟩ : vs.length = as.len ∧ seqT X.K (ctxOf P k) kw σ H1 _)
    refine wpAny_Call_Name_kw (ld_glob I (c.gl hgl) hm ?_ hpl.1.1)
    have la := pes_len ha
    have lk := pks_len hkw
    cases ha with
    | nil =>
      obtain ⟨_, h⟩ := h
      refine PySem.W.callWith_KW0 (h₀ := X.base) I.ok.mod.kin kp n1 (thn ((pks hkw).run pos pins s σ H _ I h) fun ws s2 ⟨zs, H2, I2, rz, lz, q2⟩ => ⟨I2.kIn, ?_⟩) (by rw [n3]; rfl)
      rw [n2]
      exact fin I2 .nil rz rfl (lz.trans lk) q2
    | @cons a0 as0 e0 es0 h1 h2 h3 =>
      have st := star_of h2 es0 X.env
      refine PySem.W.callWith_KW (h₀ := X.base) I.ok.mod.kin kp n1 (thn ((pas (.cons h1 h2 h3)).run pos pins s σ H _ I h) fun us s1 ⟨vs, H1, I1, r, lv, q⟩ => ?_) (by rw [n3, starAll (.cons h1 h2 h3)]; rfl) st
      refine thn ((pks hkw).run pos pins s1 σ H1 _ I1 q) fun ws s2 ⟨zs, H2, I2, rz, lz, q2⟩ => ⟨I2.kIn, ?_⟩
      rw [n2]
      exact fin I2 r rz (lv.trans la) (lz.trans lk) q2
  exact ⟨pe, pt_of pe rfl, fun ⟨_, _, _, e⟩ => nomatch e⟩
end
end PyI

/-! Targets. -/
namespace PyI
open PySem PySem.Spec PyProof.Rows L2
section
variable {K : PySem.W.Frag} {σ : L2.St} {Γ : Ctx}
/-- slots off these stay -/
def Ag (l : List Nat) (σ σ' : L2.St) : Prop := σ'.length = σ.length ∧ ∀ i, i ∉ l → σ'[i]? = σ[i]?
theorem Ag.refl (l : List Nat) (σ : L2.St) : Ag l σ σ := ⟨rfl, fun _ _ => rfl⟩
theorem Ag.trans {l : List Nat} {σ σ1 σ2 : L2.St} (a : Ag l σ σ1) (b : Ag l σ1 σ2) : Ag l σ σ2 := ⟨b.1.trans a.1, fun i hi => (b.2 i hi).trans (a.2 i hi)⟩
theorem Ag.mono {l m : List Nat} {σ σ' : L2.St} (a : Ag l σ σ') (h : ∀ i ∈ l, i ∈ m) : Ag m σ σ' := ⟨a.1, fun i hi => a.2 i fun z => hi (h i z)⟩
/-- a target's reading -/
def TTg (K : PySem.W.Frag) (Γ : Ctx) (t : T) : TG := fun v σ H Q => ∃ F env fo x l env', Same F H ∧ ER K F H σ env fo ∧ OR K F H v x l ∧ l.Nodup ∧ (∀ a ∈ l, ¬ ofF fo a) ∧ setT Γ t x env = some env' ∧
  ∀ σ' F' H' fo', Step F H (fun a => a ∈ l ∨ ofF fo a) F' H' (ofF fo') → ER K F' H' σ' env' fo' → Ag t.asgs σ σ' → Q σ' H'
def TTgs (K : PySem.W.Frag) (Γ : Ctx) (ts : Ts) : TGs := fun vs σ H Q => ∃ F env fo xs l env', Same F H ∧ ER K F H σ env fo ∧ ORs K F H vs xs l ∧ l.Nodup ∧ (∀ a ∈ l, ¬ ofF fo a) ∧ setTs Γ ts xs env = some env' ∧
  ∀ σ' F' H' fo', Step F H (fun a => a ∈ l ∨ ofF fo a) F' H' (ofF fo') → ER K F' H' σ' env' fo' → Ag ts.asgs σ σ' → Q σ' H'
theorem tg_name {i : Nat} {v : V} {H : Hp} {Q : L2.St → Hp → Prop} (h : TTg K Γ (.nm i) v σ H Q) : gName i v σ H Q := by
  obtain ⟨F, env, fo, x, l, env', fh, er, o, nd, dj, e, q⟩ := h
  unfold setT at e
  by_cases hi : i < env.length
  · rw [if_pos hi] at e
    cases e
    refine q _ F H _ (.refl fh fun a z => (ofF_set z)) (er.set hi o nd fun a ha j _ z => dj a ha ⟨j, z⟩) ⟨by simp, fun j hj => ?_⟩
    rw [List.getElem?_set_ne]
    intro z
    subst z
    exact hj (List.mem_cons_self (l := []))
  · rw [if_neg hi] at e; cases e
def Ts.len : Ts → Nat
  | .nil => 0
  | .cons _ ts => ts.len + 1
theorem setTs_len : ∀ {ts : Ts} {xs : List OT} {env env' : Env}, setTs Γ ts xs env = some env' → xs.length = ts.len
  | .nil, [], _, _, _ => rfl
  | .nil, _ :: _, _, _, h => by unfold setTs at h; cases h
  | .cons t ts, [], _, _, h => by unfold setTs at h; cases h
  | .cons t ts, x :: xs, env, env', h => by
    unfold setTs at h
    split at h
    · show _ + 1 = _ + 1
      rw [setTs_len h]
    · cases h
theorem tg_tup {ts : Ts} {v : V} {H : Hp} {Q : L2.St → Hp → Prop} (h : TTg K Γ (.tup ts) v σ H Q) : gTup K ts.len (TTgs K Γ ts) v σ H Q := by
  obtain ⟨F, env, fo, x, l, env', fh, er, o, nd, dj, e, q⟩ := h
  cases x with
  | nod _ _ => unfold setT at e; cases e
  | leaf d =>
    cases d with
    | tuple ds =>
      unfold setT at e
      cases o with
      | leaf o =>
        cases o with
        | @tup a ws _ h1 h2 =>
          have hl := setTs_len e
          rw [List.length_map] at hl
          refine ⟨a, ws, rfl, sqT_mono h1 fh, (dpAll_length h2).trans hl, F, env, fo, _, [], env', fh, er, ors_of_leaves ds ws h2, List.nodup_nil, (fun _ z => nomatch z), e, q⟩
    | _ => unfold setT at e; cases e
theorem tgs_cons {t : T} {ts : Ts} {vs : List V} {H : Hp} {Q : L2.St → Hp → Prop} (h : TTgs K Γ (.cons t ts) vs σ H Q) : gCons (TTg K Γ t) (TTgs K Γ ts) vs σ H Q := by
  obtain ⟨F, env, fo, xs, l, env', fh, er, o, nd, dj, e, q⟩ := h
  cases o with
  | nil => unfold setTs at e; cases e
  | @cons v x vs xs l1 l2 o1 o2 =>
    obtain ⟨n1, n2, n3⟩ := List.nodup_append.mp nd
    unfold setTs at e
    cases h1 : setT Γ t x env with
    | none => rw [h1] at e; cases e
    | some env1 =>
      rw [h1] at e
      refine ⟨v, vs, rfl, F, env, fo, x, l1, env1, fh, er, o1, n1, fun a ha => dj a (List.mem_append_left _ ha), h1, fun σ1 F1 H1 fo1 s1 er1 ag1 => ?_⟩
      have out : ∀ a ∈ l2, ¬ (a ∈ l1 ∨ ofF fo a) := fun a ha z => z.elim (fun y => n3 a y a ha rfl) (dj a (List.mem_append_right _ ha))
      have th : ∀ a ∈ l2, ∃ o, H a = some o := fun a ha => (ors_foot _ _ _ o2 a ha).1
      refine ⟨F1, env1, fo1, xs, l2, env', s1.fh, er1, ors_keep s1.fs _ _ _ o2 fun a o ha ho => s1.keep a o ho (out a ha), n2, fun a ha z => ?_, e, fun σ' F' H' fo' s er' ag => q σ' F' H' fo' ?_ er' ((ag1.mono fun i hi => List.mem_append_left _ hi).trans (ag.mono fun i hi => List.mem_append_right _ hi))⟩
      · rcases s1.own a z with y | y
        · exact out a ha y
        · obtain ⟨o, w⟩ := th a ha
          rw [w] at y; cases y
      refine ((s1.frame (M := fun a => a ∈ l2) out th).sub fun a z => ?_).trans s
      rcases z with z | z | z
      · exact .inl (List.mem_append_right _ z)
      · exact .inl (List.mem_append_left _ z)
      · exact .inr z
/-- one item of a list stored anew -/
theorem ors_set {F H : Hp} {v : V} {t : OT} {lx : List Addr} : ∀ {ts : List OT} {vs : List V} {m : List Addr} (j : Nat), ORs K F H vs ts m → m.Nodup → OR K F H v t lx → lx.Nodup → (∀ a ∈ lx, a ∉ m) → ∃ m', ORs K F H (vs.set j v) (ts.set j t) m' ∧ (∀ b ∈ m', b ∈ m ∨ b ∈ lx) ∧ m'.Nodup
  | _, _, _, _, .nil, _, _, _, _ => ⟨[], .nil, (fun _ z => nomatch z), List.nodup_nil⟩
  | _, _, _, 0, .cons (l := l1) (m := l2) h1 h2, nd, o, no, dj => by
    obtain ⟨n1, n2, n3⟩ := List.nodup_append.mp nd
    refine ⟨lx ++ l2, .cons o h2, fun b hb => ?_, List.nodup_append.mpr ⟨no, n2, fun a ha b hb e => dj a ha (List.mem_append_right _ (e ▸ hb))⟩⟩
    rcases List.mem_append.mp hb with z | z
    · exact .inr z
    · exact .inl (List.mem_append_right _ z)
  | _, _, _, j + 1, .cons (l := l1) (m := l2) h1 h2, nd, o, no, dj => by
    obtain ⟨n1, n2, n3⟩ := List.nodup_append.mp nd
    obtain ⟨m', q1, q2, q3⟩ := ors_set j h2 n2 o no fun a ha z => dj a ha (List.mem_append_right _ z)
    refine ⟨l1 ++ m', .cons h1 q1, fun b hb => ?_, List.nodup_append.mpr ⟨n1, q3, fun a ha b hb e => ?_⟩⟩
    · rcases List.mem_append.mp hb with z | z
      · exact .inl (List.mem_append_left _ z)
      · exact (q2 b z).imp (List.mem_append_right _) id
    · subst e
      rcases q2 a hb with z | z
      · exact n3 a ha a z rfl
      · exact dj a z (List.mem_append_left _ ha)
theorem tg_sub {o i : E} {v : V} {H : Hp} {Q : L2.St → Hp → Prop} (h : TTg K Γ (.sub o i) v σ H Q) : gSub (TEv K Γ o) (TEv K Γ i) rSetN v σ H Q := by
  obtain ⟨F, env, fo, x, l, env', fh, er, ov, nd, dj, e, q⟩ := h
  unfold setT at e
  cases h1 : ev Γ o env with
  | none => rw [h1] at e; cases e
  | some z =>
    obtain ⟨r, e1⟩ := z
    rw [h1] at e
    cases r with
    | own _ => cases e
    | al va p =>
      simp only at e
      cases hd : (!p.isEmpty && !i.quiet) with
      | true => rw [hd] at e; cases e
      | false =>
        rw [hd] at e
        simp only [Bool.false_eq_true, if_false] at e
        cases h2 : ev Γ i e1 with
        | none => rw [h2] at e; cases e
        | some z =>
          obtain ⟨ri, e2⟩ := z
          rw [h2] at e
          simp only at e
          cases h3 : ri.dat e2 with
          | none => rw [h3] at e; cases e
          | some d =>
            rw [h3] at e
            simp only at e
            cases h4 : e2.look va p with
            | none => rw [h4] at e; cases e
            | some t0 =>
              rw [h4] at e
              cases t0 with
              | leaf _ => cases e
              | nod g xs =>
                simp only at e
                refine ⟨F, env, fo, _, e1, fh, er, h1, fun w F1 H1 fo1 l1 p1 => ?_⟩
                refine ⟨F1, e1, fo1, ri, e2, p1.st.fh, p1.er, h2, fun y F2 H2 fo2 l2 p2 => ?_⟩
                have hw := p1.pend p2.step fun z => (p2.qt (by
                  cases p with
                  | nil => cases z
                  | cons _ _ =>
                    simp only [List.isEmpty_cons, Bool.not_false, Bool.true_and, Bool.not_eq_false'] at hd
                    exact hd)).2.2
                have s12 := p1.step.trans p2.step
                have dy := dat_rep p2.st.fh p2.er p2.rr h3
                cases hw with
                | al w =>
                  have ov2 : OR K F2 H2 v x l := or_keep s12.fs _ _ _ ov fun a o ha ho => s12.keep a o ho (dj a ha)
                  have djl : ∀ b ∈ l, ¬ ofF fo2 b := fun b hb z => by
                    rcases s12.own b z with y | y
                    · exact dj b hb y
                    · obtain ⟨⟨o, u⟩, _⟩ := or_foot _ _ _ ov b hb
                      rw [u] at y; cases y
                  obtain ⟨m, om, hm⟩ := look_rep p2.er w h4
                  cases om with
                  | @nod a _ us _ mm u1 u0 u2 u3 =>
                    have hal : a ∉ l := fun z => djl a z ⟨va, hm a List.mem_cons_self⟩
                    have rest : ∀ {g' : Option (List Key)} {us' : List V} {fo3 : Nat → List Addr}, ER K F2 (upd H2 a (hoOf g' us')) σ env' fo3 → (∀ b, ofF fo3 b → ofF fo2 b ∨ b ∈ l) → ofF fo2 a → Q σ (upd H2 a (hoOf g' us')) := fun {g' us' fo3} q1 q2 q3 => by
                      refine q σ F2 _ fo3 ?_ q1 (.refl _ _)
                      have sf := (s12.frame (M := fun b => b ∈ l) (fun b hb => dj b hb) fun b hb => (or_foot _ _ _ ov b hb).1)
                      refine sf.trans ⟨Same.refl F2, fun b o hb => ?_, fun b o hb hn => ⟨?_, rfl⟩, fun b hb => ?_, fun b hb => ?_⟩
                      · by_cases c : b = a
                        · subst c
                          have z := u2
                          rw [hb] at z; cases z
                        · rw [upd_ne c]; exact p2.st.fh b o hb
                      · rw [upd_ne fun c : b = a => hn (.inr (by rw [c]; exact q3))]; exact hb
                      · by_cases c : b = a
                        · subst c; rw [upd_same] at hb; cases hb
                        · rw [upd_ne c] at hb; exact hb
                      · rcases q2 b hb with z | z
                        · exact .inl (.inr z)
                        · exact .inl (.inl z)
                    have hlen := ors_length u3
                    -- in its place
                    have inPlace : ∀ {j : Nat}, e2.put va p (.nod g (xs.set j x)) = some env' → gOk g (us.set j v) → Q σ (upd H2 a (hoOf g (us.set j v))) := fun {j} e hg => by
                      obtain ⟨fo3, q1, q2, q3⟩ := put_env (gg := g) (gg' := g) (vs' := us.set j v) (lx := l) p2.er w h4 e hg djl fun vs m hv hv0 ho hn hna hin => by
                        rw [u1] at hv
                        obtain ⟨_, rfl⟩ := hoOf_inj u0 hv0 (Option.some.inj hv)
                        exact ors_set j (ors_upd ho hna) hn (or_upd ov2 hal) nd fun b hb z => djl b hb (hin b z)
                      exact rest q1 q2 q3
                    cases hp : posG g xs.length d with
                    | some j =>
                      rw [hp] at e
                      simp only at e
                      cases hr : roomG g with
                      | false => rw [hr] at e; cases e
                      | true =>
                      rw [hr] at e
                      simp only at e
                      cases g with
                      | none =>
                        cases d with
                        | int k =>
                          cases dy
                          exact .inl ⟨a, us, k, j, rfl, rfl, u1, by rw [hlen]; exact hp, inPlace e trivial⟩
                        | _ => cases hp
                      | some ks =>
                        unfold posG at hp
                        simp only at hp
                        split at hp
                        · rename_i key hk
                          have hz : ks.length = us.length := u0.1
                          refine .inr ⟨a, ks.zip us, key, rfl, dq_key dy hk, u1, ?_, ?_⟩
                          · have := of_decide_eq_true hr
                            rw [List.length_zip]; omega
                          · rw [putK_on hz u0.2 hp]
                            exact inPlace e ⟨by rw [List.length_set]; exact hz, u0.2⟩
                        · cases hp
                    | none =>
                      rw [hp] at e
                      simp only at e
                      cases g with
                      | none => cases e
                      | some ks =>
                        simp only at e
                        unfold posG at hp
                        simp only at hp
                        split at e
                        · rename_i key hk
                          rw [hk] at hp
                          simp only at hp
                          split at e
                          · rename_i hr
                            have hz0 := of_decide_eq_true hr
                            have hz : ks.length = us.length := u0.1
                            refine .inr ⟨a, ks.zip us, key, rfl, dq_key dy hk, u1, by rw [List.length_zip]; omega, ?_⟩
                            rw [putK_end hz hp]
                            obtain ⟨fo3, q1, q2, q3⟩ := put_env (gg := some ks) (gg' := some (ks ++ [key])) (vs' := us ++ [v]) (lx := l) p2.er w h4 e ⟨by simp [hz], List.nodup_append.mpr ⟨u0.2, by simp, fun z hz1 z' hz2 e => posK_none hp (by rw [← List.mem_singleton.mp hz2, ← e]; exact hz1)⟩⟩ djl fun vs m hv hv0 ho hn hna hin => by
                              rw [u1] at hv
                              obtain ⟨_, rfl⟩ := hoOf_inj u0 hv0 (Option.some.inj hv)
                              refine ⟨m ++ (l ++ []), ors_append (ors_upd ho hna) (.cons (or_upd ov2 hal) .nil), fun b hb => ?_, List.nodup_append.mpr ⟨hn, by simpa using nd, fun b hb b' hb' z => ?_⟩⟩
                              · rcases List.mem_append.mp hb with z | z
                                · exact .inl z
                                · exact .inr (by simpa using z)
                              · subst z
                                exact djl b (by simpa using hb') (hin b hb)
                            exact rest q1 q2 q3
                          · cases e
                        · cases e
end
section
variable {X : Cx} {Γ : Ctx}
theorem PG.imp {e : Expr} {t t' : TG} (h : PG X e t) (q : ∀ v σ H Q, t' v σ H Q → t v σ H Q) : PG X e t' := ⟨fun pins s σ H v u Q I r w => h.run pins s σ H v u Q I r (q v σ H Q w)⟩
theorem PGs.imp {e : List Expr} {t t' : TGs} (h : PGs X e t) (q : ∀ v σ H Q, t' v σ H Q → t v σ H Q) : PGs X e t' := ⟨fun pins s σ H v u Q I r w => h.run pins s σ H v u Q I r (q v σ H Q w)⟩
/-- several targets, each with its reading -/
inductive GOks (X : Cx) (Γ : Ctx) : Ts → List Expr → Prop
  | nil : GOks X Γ .nil []
  | cons {t : T} {ts : Ts} {e : Expr} {es : List Expr} : PG X e (TTg X.K Γ t) → notStar e = true → GOks X Γ ts es → GOks X Γ (.cons t ts) (e :: es)
theorem asgEach_of {e : Expr} (h : notStar e = true) (es : List Expr) (env : PySem.Env) : assignEach (e :: es) env = (false, assign e env) :: assignEach es env := by
  cases e <;> first | rfl | cases h
theorem gtgs_nil {K : PySem.W.Frag} {vs : List V} {σ : L2.St} {H : Hp} {Q : L2.St → Hp → Prop} (h : TTgs K Γ .nil vs σ H Q) : gNil vs σ H Q := by
  obtain ⟨F, env, fo, xs, l, env', fh, er, o, nd, dj, e, q⟩ := h
  cases o with
  | cons _ _ => unfold setTs at e; cases e
  | nil =>
    unfold setTs at e
    cases e
    exact ⟨rfl, q σ F H fo (.refl fh fun _ z => .inr z) er (.refl _ _)⟩
theorem pgs_of {ts : Ts} {es : List Expr} (h : GOks X Γ ts es) : PGs X es (TTgs X.K Γ ts) ∧ (assignEach es X.env).length = ts.len ∧ (assignEach es X.env).findIdx? (·.1) = none := by
  induction h with
  | nil => exact ⟨PGs.imp pgs_nil fun v σ H Q q => gtgs_nil q, rfl, rfl⟩
  | cons h1 h2 _ ih =>
    obtain ⟨i1, i2, i3⟩ := ih
    have z := asgEach_of h2
    refine ⟨PGs.imp (pgs_cons h1 i1 (by rw [z]; rfl)) fun v σ H Q q => tgs_cons q, by rw [z]; show _ + 1 = _ + 1; rw [i2], ?_⟩
    rw [z, List.findIdx?_cons, i3]
    rfl
theorem ok_name {P : List Def} {k : Nat} {N : List Str} {sc : Scope} {top : Bool} (c : CxOk P k N sc top X) {i : Nat} {x : Str} {pos : Pos} (h1 : N[i]? = some x) (h2 : locB top sc x = true) : PG X (.Name x pos) (TTg X.K Γ (.nm i)) :=
  PG.imp (pg_name c.nd (by rw [c.hN]; exact h1) (c.loc h2).1 (c.loc h2).2) fun v σ H Q q => tg_name q
theorem ok_tup {P : List Def} {k : Nat} {N : List Str} {sc : Scope} {top : Bool} (c : CxOk P k N sc top X) {ts : Ts} {es : List Expr} {j : Nat} {pos : Pos} (h : GOks X Γ ts es) : PG X (.Tuple es j pos) (TTg X.K Γ (.tup ts)) :=
  PG.imp (pg_tup c.calm (pgs_of h).1 (pgs_of h).2.1 (pgs_of h).2.2) fun v σ H Q q => tg_tup q
theorem ok_sub (hu : X.A.units + 1 < cLine) {o i : E} {x y : Expr} {pos : Pos} (ns : notSlice y = true) (h1 : PE X x (TEv X.K Γ o)) (h2 : PE X y (TEv X.K Γ i)) : PG X (.Subscript x y pos) (TTg X.K Γ (.sub o i)) :=
  PG.imp (pg_sub h1 h2 (set_nod hu) (by intro v; cases y <;> first | rfl | cases ns)) fun v σ H Q q => tg_sub q
end
end PyI

/-! enumerate over a list or a tuple. -/
namespace PyI
open PySem PySem.Spec PyProof.Rows L2

set_option maxHeartbeats 1000000 in
theorem meets_enum1 {v : Value} {o : Obj} {H : Heap → Prop} (B : Begins v o H) :
    Meets (Builtin.«enumerate.__new__» ⟨[.type "enumerate", v], []⟩) (fun _ R s => H s.heap ∧
      R (.ok (.ret (.ref (s.heap.push o).objs.size))) { s with heap := (s.heap.push o).push { cls := .type "enumerate", data := .fields #[.none, .bool false, .ref s.heap.objs.size, rawInt 0, .none, .none] } }) :=
  .of_wp fun prog w A R s h => by
    obtain ⟨hp, g, d, tk, os⟩ := s; obtain ⟨h1, h⟩ := h
    have hsub := sub_enumerate
    have q1 : ∀ {A' : Around} {E : Value → Shared → Prop} {Q : Value → Shared → Prop}, Q (.ref hp.objs.size) ⟨hp.push o, g, d, tk, os⟩ → wpAny (model prog w) A' (pyIter v) Q E ⟨hp, g, d, tk, os⟩ :=
      fun q => B.iter prog w _ _ ⟨hp, g, d, tk, os⟩ _ h1 q
    wp_walk using q1
    refine wpAny_stack_any fun st => wpAny_pure ?_
    split
    · rename_i c _ _ _ _ _
      cases (c == Value.type "enumerate")
      · wp_walk using q1
        exact ⟨_, rfl, h⟩
      · wp_walk using q1
        exact ⟨_, rfl, h⟩
    · wp_walk using q1
      exact ⟨_, rfl, h⟩
theorem call_enum1 {prog : Program} {w : World} {A : Around} {E : Value → Shared → Prop} {s : Shared} {v : Value} {o : Obj} {H : Heap → Prop} {Q : Value → Shared → Prop} (B : Begins v o H) (h1 : H s.heap)
    (h : ∀ h', IsEnum h' (s.heap.objs.size + 1) s.heap.objs.size 0 .none → h'.get? s.heap.objs.size = some o → h'.objs.size = s.heap.objs.size + 2 →
      (∀ b o, s.heap.get? b = some o → h'.get? b = some o) → Q (.ref (s.heap.objs.size + 1)) { s with heap := h' }) :
    wpAny (model prog w) A (call (.type "enumerate") [v]) Q E s := by
  refine callType_new F.called_enumerate (by decide) (F.typeCall_enumerate_1 _) (F.newCall_enumerate_1 _) (fun obj => F.args_object_init_2 obj _) F.entry_enumerate_new
    (meets_enum1 B) ⟨h1, ?_⟩
  have hz : (s.heap.push o).objs.size = s.heap.objs.size + 1 := Heap.size_push ..
  show _ ∧ _
  rw [hz]
  have he : IsEnum ((s.heap.push o).push { cls := .type "enumerate", data := .fields #[.none, .bool false, .ref s.heap.objs.size, rawInt 0, .none, .none] }) (s.heap.objs.size + 1) s.heap.objs.size 0 .none := by
    have := Heap.get?_push_size (s.heap.push o) (o := { cls := .type "enumerate", data := .fields #[.none, .bool false, .ref s.heap.objs.size, rawInt 0, .none, .none] }) rfl
    rw [hz] at this; exact this
  refine ⟨⟨_, he, rfl⟩, h _ he (Heap.get?_push_of_some _ (Heap.get?_push_size _ B.free)) (by rw [Heap.size_push, hz]) fun b o x => Heap.get?_push_of_some _ (Heap.get?_push_of_some _ x)⟩

theorem enum_end_tup {prog : Program} {w : World} {A : Around} {E : Value → Shared → Prop} {s : Shared} {e it l : Addr} {i : Nat} {items : Array Value} {c : Int} {old : Value} {Q : Option Value → Shared → Prop} (hh : A.handled = none)
    (he : IsEnum s.heap e it c old) (hit : s.heap.IsTupleIter it l i) (hl : s.heap.IsTuple l items) (hi : items[i]? = none)
    (hQ : ∀ h', Heap.ExtBut it s.heap h' → Q none { s with heap := h' }) : wpAny (model prog w) A (pyNext (.ref e)) Q E s := by
  have hT : s.TypeIs (.ref e) "enumerate" := ⟨_, he, rfl⟩
  unfold pyNext
  refine wpAny_bind (wpAny_attempt (wpAny_callSpecial?_slot (name := Str.ofString "__next__") hT F.slot_enumerate_next
    (wpAny_call_entry F.slot_enumerate_next hT F.entry_enumerate_next ?_ (F.args_enumerate_next_1 _))))
  show wpAny _ _ (field (.ref e) 2 >>= _) _ _ _
  refine wpAny_bind (wpAny_field he rfl (x := .ref it) rfl ?_)
  refine wpAny_bind (wpAny_nextOf_tuple_end (A := A.in1) hh hit hl hi fun h' x he' hx' => ?_)
  obtain ⟨o, ho, hc⟩ := hx'
  refine wpAny_bind (wpAny_isInstance (T := "StopIteration") (b := true) ⟨o, ho, hc⟩ isSubtype_stop ?_)
  exact wpAny_pure (hQ _ he')

/-- the tuple at a, each item in a new pair -/
def IteT (K : PySem.W.Frag) (a : Addr) : L2.It :=
  ⟨fun i H => ∃ (xs : List V) (x : V), SqT K H a xs ∧ xs[i]? = some x, fun i H v H' => ∃ T x, v = .ref T ∧ H T = none ∧ H' = upd H T (.tup [.int (i : Nat), x]) ∧ ∀ xs, SqT K H a xs → xs[i]? = some x, fun i H => ∃ xs : List V, SqT K H a xs ∧ xs.length ≤ i⟩
theorem turn_enumT {P : Program} {w : World} {K : PySem.W.Frag} {elts : List Expr} {kk : Nat} {tpos : Pos} (a e it : Addr) :
    Turn P w K (.Tuple elts kk tpos) (IteT K a) [e, it] e (fun i h => (∃ old, IsEnum h e it ((i : Nat) : Int) old) ∧ h.IsTupleIter it a i ∧ e ≠ it ∧ a < it ∧ it < e) where
  mem := by simp
  obj := fun i h st b hb => by
    obtain ⟨⟨old, he⟩, ⟨o, ho, hc, hd⟩, _⟩ := st
    have e' : b = e ∨ b = it := by simpa using hb
    rcases e' with z | z
    · rw [z]; exact ⟨_, he, fun v q => nomatch q⟩
    · rw [z]; exact ⟨o, ho, fun v q => by rw [hd] at q; cases q⟩
  keep := fun i h h' st k => let ⟨⟨old, he⟩, hi, hne⟩ := st; ⟨⟨old, k e (by simp) _ he⟩, hi.at fun o q => k it (by simp) o q, hne⟩
  item := by
    intro X hP hw hK hc i pins s σ H E I hf st hg
    subst hP hw hK
    obtain ⟨⟨old, he⟩, hit, hne, hai, hie⟩ := st
    obtain ⟨xs, x, hq, hx⟩ := hg
    obtain ⟨its, rv, p, hz⟩ := I.tuple hq
    obtain ⟨u, hu, ru⟩ := rv.get hx
    have hel : e < s.heap.objs.size := Heap.lt_size he
    have hil : it < s.heap.objs.size := by obtain ⟨_, q, _⟩ := hit; exact Heap.lt_size q
    have hlt : i < its.toArray.size := by
      have := List.getElem?_eq_some_iff.mp hu
      obtain ⟨h1, _⟩ := this
      simpa using h1
    refine wpAny_pyNext_enum_itemD (Draws.tuple (A := X.A.in1) (show X.A.handled = none from I.ok.hd hc) it a (Nat.ne_of_lt hai) its.toArray) he ⟨hit, p⟩ hlt hne (by simp; exact ⟨Nat.ne_of_gt hie, Nat.ne_of_gt (Nat.lt_trans hai hie)⟩) fun x' h' tk hP ho hit' hT hsz hk => ?_
    have hx' : x' = u := by
      have z : its.toArray[i]? = some x' := hP
      rw [List.getElem?_toArray, hu] at z
      exact (Option.some.inj z).symm
    subst hx'
    refine ⟨_, rfl, wpAny_letOwnedTupleGo_enum (s := { s with heap := h', toks := tk + 1 }) ho fun h'' he' sb => ?_⟩
    have hT2 : h''.get? s.heap.objs.size = some { cls := .type "tuple", data := .seq #[.int i tk, x'] } := (sb.2 _ (Nat.ne_of_gt hel)).trans hT
    have new : ObjOk X.prog X.w (upd H s.heap.objs.size (.tup [.int (i : Nat), x])) h'' s.heap.objs.size (.tup [.int (i : Nat), x]) :=
      ⟨by show 2 ≤ sizeLine; decide, [.int i tk, x'], .cons ⟨_, rfl⟩ (.cons ru .nil), ⟨_, hT2, rfl, _, rfl⟩⟩
    have I1 : Inv X pins σ (upd H s.heap.objs.size (.tup [.int (i : Nat), x])) { s with heap := h'', toks := tk + 1 } :=
      I.turnedNew (ch := [e, it]) (fun b ob hb q => (sb.2 b (fun z => hb (by simp [z]))).trans (hk b ob (fun z => hb (by simp [z])) (fun z => hb (by simp [z])) q)) hf (Nat.le_refl _) new
    refine ⟨.ref s.heap.objs.size, _, I1, rfl, ⟨_, x, rfl, I.hok.fresh (Nat.le_refl _), rfl, fun ys hy => by rw [I.tuple_inj hy hq]; exact hx⟩, ⟨⟨x', ?_⟩, hit'.1.at fun o q => (sb.2 it (Ne.symm hne)).trans q, hne, hai, hie⟩, fun b hb => ?_⟩
    · have e1 : ((i + 1 : Nat) : Int) = (i : Int) + 1 := by omega
      rw [e1]; exact he'
    · have hb' : b < s.heap.objs.size := by
        have e' : b = e ∨ b = it := by simpa using hb
        rcases e' with z | z
        · rw [z]; exact hel
        · rw [z]; exact hil
      rw [upd_ne (Nat.ne_of_lt hb')]
      exact (hf b hb).1
  done := by
    intro X hP hw hK hc i pins s σ H E I hf st hg
    subst hP hw hK
    obtain ⟨⟨old, he⟩, hit, hne, hai, hie⟩ := st
    obtain ⟨xs, hq, hx⟩ := hg
    obtain ⟨its, rv, p, hz⟩ := I.tuple hq
    obtain ⟨f0, f1, f2, f3, f4, f5⟩ := hf it (by simp)
    have hl := rv.length
    exact enum_end_tup (I.ok.hd hc) he hit p (by simp; omega) fun h' eb => ⟨rfl, I.turned (t' := s.toks) (fun b o hb q => eb b o hb q) f0 f1 f3 f4 f5⟩
  self := fun A i s Q E st h => let ⟨⟨_, he⟩, _⟩ := st; wpAny_pyIter_enum he h
def iEnumA (K : PySem.W.Frag) (ta : TA) : TI := fun σ H R => ta σ H fun vs H1 => ∃ a xs, vs = [.ref a] ∧ ((SqL K H1 a xs ∧ R (Ite K a) H1) ∨ (SqT K H1 a xs ∧ R (IteT K a) H1))
theorem pi_enumA {X : Cx} {e : Expr} {ta : TA} {p pos tpos : Pos} {elts : List Expr} {kk : Nat} (hg : Gl X "enumerate") (hm : X.mg "enumerate" = none) (ha : PA X [e] ta) (hs : starEach [e] X.env = [(false, eval e X.env)] := by rfl) :
    PI X (.Tuple elts kk tpos) (.Call (.Name "enumerate" p) [e] [] pos) (iEnumA X.K ta) := by
  refine ⟨fun pins s σ H R I h => ?_⟩
  refine Call_ (ld_blt I hg hm boot_enumerate (PyProof.Rows.callWith_type1 (thn (ha.run pos pins s σ H _ I h) fun us s1 ⟨vs, H1, I1, r1, q1⟩ => ?_) hs rfl))
  obtain ⟨a, xs, ex, q1⟩ := q1
  subst ex
  cases r1 with
  | cons r rr =>
    cases rr
    cases r
    have fr : ∀ b ∈ [s1.heap.objs.size + 1, s1.heap.objs.size], FpOk X pins H1 b := fun b hb => by
      have e' : b = s1.heap.objs.size + 1 ∨ b = s1.heap.objs.size := by simpa using hb
      have hle : s1.heap.objs.size ≤ b := by
        rcases e' with z | z
        · rw [z]; exact Nat.le_add_right _ _
        · rw [z]; exact Nat.le_refl _
      exact I1.fpOk hle (I1.hok.fresh hle)
    rcases q1 with ⟨hq, q⟩ | ⟨hq, q⟩
    · obtain ⟨its, rv, p', hz⟩ := I1.list hq
      refine call_enumerate_list p'.isList fun h' he hit hsz hk => wpAny_pyIter_enum he ?_
      have I2 : Inv X pins σ H1 { s1 with heap := h' } := I1.kept (t' := s1.toks) hk
      exact ⟨s1.heap.objs.size + 1, [s1.heap.objs.size + 1, s1.heap.objs.size], _, _, H1, rfl, I2, turn_enum a (s1.heap.objs.size + 1) s1.heap.objs.size, ⟨⟨.none, he⟩, hit, Nat.succ_ne_self _⟩, fr, q⟩
    · obtain ⟨its, rv, p', hz⟩ := I1.tuple hq
      have hal : a < s1.heap.objs.size := by obtain ⟨o1, ho1, _⟩ := id p'; exact Heap.lt_size ho1
      refine call_enum1 (begins_tuple a its.toArray) p' fun h' he hit hsz hk => wpAny_pyIter_enum he ?_
      have I2 : Inv X pins σ H1 { s1 with heap := h' } := I1.kept (t' := s1.toks) hk
      exact ⟨s1.heap.objs.size + 1, [s1.heap.objs.size + 1, s1.heap.objs.size], _, _, H1, rfl, I2, turn_enumT a (s1.heap.objs.size + 1) s1.heap.objs.size, ⟨⟨.none, he⟩, ⟨_, hit, rfl, rfl⟩, Nat.succ_ne_self _, hal, Nat.lt_succ_self _⟩, fr, q⟩
end PyI

/-! What loops walk. -/
namespace PyI
open PySem PySem.Spec PyProof.Rows L2
/-- an iterator that walks a source -/
inductive Wk (K : PySem.W.Frag) (σ : L2.St) (F H : Hp) (L : Addr → Prop) : L2.It → Src → Prop
  | tup {a : Addr} {vs : List V} {ds : List D} : SqT K F a vs → DqAll K F vs ds → Wk K σ F H L (Itt K a) (.fix ds)
  | lst {a : Addr} {vs : List V} {ds : List D} : SqX K F a vs → DqAll K F vs ds → Wk K σ F H L (Itl K a) (.fix ds)
  | own {a : Addr} {vs : List V} {ds : List D} : H a = some (.lst vs) → ¬ L a → DqAll K F vs ds → Wk K σ F H L (Itl K a) (.fix ds)
  | live {a : Addr} {i : Nat} : σ[i]? = some (some (.ref a)) → Wk K σ F H L (Itl K a) (.live i false)
  | rng {lo : Int} {n : Nat} : Wk K σ F H L (Itr lo n) (.fix (rangeD lo n))
  | zipT {a b : Addr} {vs us : List V} {ds es : List D} : SqT K F a vs → SqT K F b us → DqAll K F vs ds → DqAll K F us es → Wk K σ F H L (RZ.ItzT K a b) (.fix (zipD ds es))
  | zipL {a b : Addr} {vs us : List V} {ds es : List D} : (SqX K F a vs ∨ H a = some (.lst vs) ∧ ¬ L a) → (SqX K F b us ∨ H b = some (.lst us) ∧ ¬ L b) → DqAll K F vs ds → DqAll K F us es → Wk K σ F H L (Itz K a b) (.fix (zipD ds es))
  | enT {a : Addr} {vs : List V} {ds : List D} : SqT K F a vs → DqAll K F vs ds → Wk K σ F H L (IteT K a) (.fix (enumD 0 ds))
  | enL {a : Addr} {vs : List V} {ds : List D} : (SqX K F a vs ∨ H a = some (.lst vs) ∧ ¬ L a) → DqAll K F vs ds → Wk K σ F H L (Ite K a) (.fix (enumD 0 ds))
  | enV {a : Addr} {i : Nat} : σ[i]? = some (some (.ref a)) → Wk K σ F H L (Ite K a) (.live i true)
section
variable {K : PySem.W.Frag} {σ : L2.St} {Γ : Ctx} {F H F' H' : Hp} {fo fo' : Nat → List Addr} {J : L2.It} {src : Src} {L L' : Addr → Prop}
theorem held_step {a : Addr} {vs : List V} (h : SqX K F a vs ∨ H a = some (.lst vs) ∧ ¬ L a) (s : Step F H L F' H' L') : SqX K F' a vs ∨ H' a = some (.lst vs) ∧ ¬ L' a := by
  rcases h with h | ⟨h1, h2⟩
  · exact .inl (sqX_mono h s.fs)
  · refine .inr ⟨(s.keep _ _ h1 h2).1, fun z => ?_⟩
    rcases s.own _ z with y | y
    · exact h2 y
    · rw [h1] at y; cases y
theorem held_sq {a : Addr} {vs : List V} (fh : Same F H) (h : SqX K F a vs ∨ H a = some (.lst vs) ∧ ¬ L a) : SqL K H a vs := by
  rcases h with h | ⟨h1, h2⟩
  · exact (sqX_mono h fh).sq
  · exact SqL.of h1
theorem zipD_get : ∀ {ds es : List D} {j : Nat}, (zipD ds es)[j]? = (match ds[j]?, es[j]? with
    | some x, some y => some (.tuple [x, y])
    | _, _ => none)
  | [], _, j => by unfold zipD; simp
  | d :: ds, [], j => by unfold zipD; cases (d :: ds)[j]? <;> simp
  | d :: ds, e :: es, 0 => by unfold zipD; rfl
  | d :: ds, e :: es, j + 1 => by
    unfold zipD
    simp only [List.getElem?_cons_succ]
    exact zipD_get
theorem enumD_get : ∀ {ds : List D} {k j : Nat}, (enumD k ds)[j]? = (ds[j]?).map fun d => .tuple [.int ((k + j : Nat) : Int), d]
  | [], k, j => by unfold enumD; simp
  | d :: ds, k, 0 => by unfold enumD; rfl
  | d :: ds, k, j + 1 => by
    unfold enumD
    simp only [List.getElem?_cons_succ]
    rw [enumD_get, show k + 1 + j = k + (j + 1) from by omega]
theorem live_stop {env : Env} {j i : Nat} {w : Bool} {a : Addr} (h : σ[i]? = some (some (.ref a))) (fh : Same F H) (er : ER K F H σ env fo) (e : (Src.live i w).get j env = some none) : ∃ vs, SqL K H a vs ∧ vs.length ≤ j := by
  unfold Src.get at e
  simp only at e
  cases hq : env[i]? with
  | none => rw [hq] at e; cases e
  | some o =>
    rw [hq] at e
    cases o with
    | none => cases e
    | some t =>
      obtain ⟨v, g1, g2⟩ := er.rep i t hq
      generalize fo i = lf at g2
      rw [h] at g1; cases g1
      cases t with
      | nod g ts =>
        obtain rfl : g = none := by
          cases g with
          | none => rfl
          | some _ => cases e
        cases g2 with
        | nod u1 u0 u2 u3 =>
          replace u1 : H _ = some (.lst _) := u1
          simp only at e
          cases hk : ts[j]? with
          | none => exact ⟨_, SqL.of u1, by rw [ors_length u3]; exact List.getElem?_eq_none_iff.mp hk⟩
          | some t => rw [hk] at e; cases t <;> cases e
      | leaf d =>
        cases d with
        | list ds =>
          cases g2 with
          | leaf g2 =>
            cases g2 with
            | lst u1 u2 =>
              simp only [Option.some.injEq, Option.map_eq_none_iff] at e
              exact ⟨_, (sqX_mono u1 fh).sq, by rw [dpAll_length u2]; exact List.getElem?_eq_none_iff.mp e⟩
        | _ => cases e
theorem live_go {env : Env} {j i : Nat} {w : Bool} {a : Addr} {d : D} (h : σ[i]? = some (some (.ref a))) (fh : Same F H) (er : ER K F H σ env fo) (e : (Src.live i w).get j env = some (some d)) : ∃ vs x d', SqL K H a vs ∧ vs[j]? = some x ∧ Dq K F x d' ∧ d = wrapAt w j d' := by
  unfold Src.get at e
  simp only at e
  cases hq : env[i]? with
  | none => rw [hq] at e; cases e
  | some o =>
    rw [hq] at e
    cases o with
    | none => cases e
    | some t =>
      obtain ⟨v, g1, g2⟩ := er.rep i t hq
      generalize fo i = lf at g2
      rw [h] at g1; cases g1
      cases t with
      | nod g ts =>
        obtain rfl : g = none := by
          cases g with
          | none => rfl
          | some _ => cases e
        cases g2 with
        | nod u1 u0 u2 u3 =>
          replace u1 : H _ = some (.lst _) := u1
          simp only at e
          cases hk : ts[j]? with
          | none => rw [hk] at e; cases e
          | some t =>
            rw [hk] at e
            cases t with
            | nod _ _ => cases e
            | leaf d' =>
              cases e
              obtain ⟨x, m, w1, w2, _⟩ := ors_get u3 hk
              cases w2 with | leaf w2 => exact ⟨_, x, d', SqL.of u1, w1, w2, rfl⟩
      | leaf d' =>
        cases d' with
        | list ds =>
          cases g2 with
          | leaf g2 =>
            cases g2 with
            | lst u1 u2 =>
              simp only [Option.some.injEq, Option.map_eq_some_iff] at e
              obtain ⟨d2, e1, e2⟩ := e
              obtain ⟨x, g1, g2⟩ := dpAll_get u2 e1
              exact ⟨_, x, d2, (sqX_mono u1 fh).sq, g1, g2, e2.symm⟩
        | _ => cases e
/-- a new pair -/
theorem pair_new {T : Addr} {x y : V} {d e : D} (fh : Same F H) (hT : H T = none) (hx : Dq K F x d) (hy : Dq K F y e) : ∃ F1, Step F H (fun _ => False) F1 (upd H T (.tup [x, y])) (fun _ => False) ∧ Dq K F1 (.ref T) (.tuple [d, e]) := by
  have ne : ∀ b o, H b = some o → b ≠ T := fun b o hb z => by rw [z, hT] at hb; cases hb
  have fs : Same F (upd F T (.tup [x, y])) := fun b o hb => by rw [upd_ne (ne b o (fh b o hb))]; exact hb
  refine ⟨upd F T (.tup [x, y]), ⟨fs, fun b o hb => ?_, fun b o hb _ => ⟨by rw [upd_ne (ne b o hb)]; exact hb, upd_ne (ne b o hb)⟩, fun b hb => ?_, fun _ z => z.elim⟩, .tup (SqT.of upd_same) (.cons (dp_mono fs _ _ hx) (.cons (dp_mono fs _ _ hy) .nil))⟩
  · by_cases c : b = T
    · subst c; rw [upd_same] at hb ⊢; exact hb
    · rw [upd_ne c] at hb ⊢; exact fh b o hb
  · by_cases c : b = T
    · rw [c]; exact hT
    · rw [upd_ne c] at hb; exact hb
theorem Wk.step {σ' : L2.St} {vs : List Nat} (w : Wk K σ F H L J src) (s : Step F H L F' H' L') (hf : src.free vs = true) (ag : Ag vs σ σ') : Wk K σ' F' H' L' J src := by
  cases w with
  | tup h1 h2 => exact .tup (sqT_mono h1 s.fs) (dps_mono s.fs _ _ h2)
  | lst h1 h2 => exact .lst (sqX_mono h1 s.fs) (dps_mono s.fs _ _ h2)
  | own h1 h2 h3 =>
    refine .own (s.keep _ _ h1 h2).1 (fun z => ?_) (dps_mono s.fs _ _ h3)
    rcases s.own _ z with y | y
    · exact h2 y
    · rw [h1] at y; cases y
  | @live a i h =>
    refine .live ?_
    rw [ag.2 i ?_]
    · exact h
    · intro z
      unfold Src.free at hf
      simp [z] at hf
  | rng => exact .rng
  | zipT h1 h2 h3 h4 => exact .zipT (sqT_mono h1 s.fs) (sqT_mono h2 s.fs) (dps_mono s.fs _ _ h3) (dps_mono s.fs _ _ h4)
  | zipL h1 h2 h3 h4 => exact .zipL (held_step h1 s) (held_step h2 s) (dps_mono s.fs _ _ h3) (dps_mono s.fs _ _ h4)
  | enT h1 h2 => exact .enT (sqT_mono h1 s.fs) (dps_mono s.fs _ _ h2)
  | enL h1 h2 => exact .enL (held_step h1 s) (dps_mono s.fs _ _ h2)
  | @enV a i h =>
    refine .enV ?_
    rw [ag.2 i ?_]
    · exact h
    · intro z
      unfold Src.free at hf
      simp [z] at hf
theorem rangeD_get {lo : Int} {n j : Nat} : (rangeD lo n)[j]? = if j < n then some (.int (lo + j)) else none := by
  unfold rangeD
  rw [List.getElem?_map]
  by_cases c : j < n
  · rw [if_pos c, List.getElem?_range c]
    rfl
  · rw [if_neg c, List.getElem?_eq_none (by simpa using c)]
    rfl
theorem Wk.stop {env : Env} {j : Nat} (w : Wk K σ F H L J src) (fh : Same F H) (er : ER K F H σ env fo) (e : src.get j env = some none) : J.stop j H := by
  have fin : ∀ {vs : List V} {ds : List D}, DqAll K F vs ds → ds[j]? = none → vs.length ≤ j := fun h e => by
    rw [dpAll_length h]
    exact List.getElem?_eq_none_iff.mp e
  cases w with
  | tup h1 h2 => exact ⟨_, sqT_mono h1 fh, fin h2 (Option.some.inj e)⟩
  | lst h1 h2 => exact ⟨_, (sqX_mono h1 fh).sq, fin h2 (Option.some.inj e)⟩
  | own h1 h2 h3 => exact ⟨_, SqL.of h1, fin h3 (Option.some.inj e)⟩
  | @live a i h => exact live_stop h fh er e
  | rng =>
    have e := Option.some.inj e
    rw [rangeD_get] at e
    split at e
    · cases e
    · rename_i c; exact Nat.le_of_not_lt c
  | @zipT a b vs us ds es h1 h2 h3 h4 =>
    have e := Option.some.inj e
    rw [zipD_get] at e
    refine ⟨vs, us, sqT_mono h1 fh, sqT_mono h2 fh, ?_⟩
    cases hd : ds[j]? with
    | none => exact .inl (fin h3 hd)
    | some x =>
      cases he : es[j]? with
      | none => exact .inr (fin h4 he)
      | some y => rw [hd, he] at e; cases e
  | @zipL a b vs us ds es h1 h2 h3 h4 =>
    have e := Option.some.inj e
    rw [zipD_get] at e
    refine ⟨vs, us, held_sq fh h1, held_sq fh h2, ?_⟩
    cases hd : ds[j]? with
    | none => exact .inl (fin h3 hd)
    | some x =>
      cases he : es[j]? with
      | none => exact .inr (fin h4 he)
      | some y => rw [hd, he] at e; cases e
  | @enT a vs ds h1 h2 =>
    have e := Option.some.inj e
    rw [enumD_get, Option.map_eq_none_iff] at e
    exact ⟨vs, sqT_mono h1 fh, fin h2 e⟩
  | @enL a vs ds h1 h2 =>
    have e := Option.some.inj e
    rw [enumD_get, Option.map_eq_none_iff] at e
    exact ⟨vs, held_sq fh h1, fin h2 e⟩
  | @enV a i h => exact live_stop h fh er e
theorem Wk.go {env : Env} {j : Nat} {d : D} (w : Wk K σ F H L J src) (fh : Same F H) (er : ER K F H σ env fo) (e : src.get j env = some (some d)) : J.go j H ∧ ∀ x H1, J.yld j H x H1 → ∃ F1, Step F H (fun _ => False) F1 H1 (fun _ => False) ∧ Dq K F1 x d := by
  have r0 : Step F H (fun _ => False) F H (fun _ => False) := .refl fh fun _ z => z
  have sl : ∀ {a : Addr} {vs : List V} {x : V}, SqL K H a vs → vs[j]? = some x → Dq K F x d → (Itl K a).go j H ∧ ∀ x H1, (Itl K a).yld j H x H1 → ∃ F1, Step F H (fun _ => False) F1 H1 (fun _ => False) ∧ Dq K F1 x d := fun {a vs x} h1 h2 h3 =>
    ⟨⟨vs, x, h1, h2⟩, fun y H1 ⟨e1, e2⟩ => by
      have e3 := e2 vs h1
      rw [h2] at e3
      cases e3
      subst e1
      exact ⟨F, r0, h3⟩⟩
  have se : ∀ {a : Addr} {vs : List V} {x : V} {d0 : D}, SqL K H a vs → vs[j]? = some x → Dq K F x d0 → (Ite K a).go j H ∧ ∀ x H1, (Ite K a).yld j H x H1 → ∃ F1, Step F H (fun _ => False) F1 H1 (fun _ => False) ∧ Dq K F1 x (.tuple [.int (j : Nat), d0]) := fun {a vs x d0} h1 h2 h3 =>
    ⟨⟨vs, x, h1, h2⟩, fun v H1 ⟨T, x', e1, e2, e3, e4⟩ => by
      have g1 := e4 vs h1
      rw [h2] at g1
      cases g1
      subst e1 e3
      exact pair_new fh e2 (.int _) h3⟩
  cases w with
  | tup h1 h2 =>
    obtain ⟨x, g1, g2⟩ := dpAll_get h2 (Option.some.inj e)
    refine ⟨⟨_, x, sqT_mono h1 fh, g1⟩, fun y H1 ⟨e1, e2⟩ => ?_⟩
    have e3 := e2 _ (sqT_mono h1 fh)
    rw [g1] at e3
    cases e3
    subst e1
    exact ⟨F, r0, g2⟩
  | lst h1 h2 =>
    obtain ⟨x, g1, g2⟩ := dpAll_get h2 (Option.some.inj e)
    exact sl (sqX_mono h1 fh).sq g1 g2
  | own h1 h2 h3 =>
    obtain ⟨x, g1, g2⟩ := dpAll_get h3 (Option.some.inj e)
    exact sl (SqL.of h1) g1 g2
  | @live a i h =>
    obtain ⟨vs, x, d', g1, g2, g3, g4⟩ := live_go h fh er e
    have g4 : d = d' := g4
    subst g4
    exact sl g1 g2 g3
  | @rng lo n =>
    have e := Option.some.inj e
    rw [rangeD_get] at e
    split at e
    · rename_i c
      cases e
      exact ⟨c, fun x H1 ⟨e1, e2⟩ => by subst e1 e2; exact ⟨F, r0, .int _⟩⟩
    · cases e
  | @zipT a b vs us ds es h1 h2 h3 h4 =>
    have e := Option.some.inj e
    rw [zipD_get] at e
    cases hd : ds[j]? with
    | none => rw [hd] at e; cases e
    | some dx =>
      cases he : es[j]? with
      | none => rw [hd, he] at e; cases e
      | some dy =>
        rw [hd, he] at e
        cases e
        obtain ⟨x, x1, x2⟩ := dpAll_get h3 hd
        obtain ⟨y, y1, y2⟩ := dpAll_get h4 he
        refine ⟨⟨vs, us, x, y, sqT_mono h1 fh, sqT_mono h2 fh, x1, y1⟩, fun v H1 ⟨T, x', y', e1, e2, e3, e4, e5⟩ => ?_⟩
        have g1 := e4 vs (sqT_mono h1 fh)
        have g2 := e5 us (sqT_mono h2 fh)
        rw [x1] at g1
        rw [y1] at g2
        cases g1
        cases g2
        subst e1 e3
        exact pair_new fh e2 x2 y2
  | @zipL a b vs us ds es h1 h2 h3 h4 =>
    have e := Option.some.inj e
    rw [zipD_get] at e
    cases hd : ds[j]? with
    | none => rw [hd] at e; cases e
    | some dx =>
      cases he : es[j]? with
      | none => rw [hd, he] at e; cases e
      | some dy =>
        rw [hd, he] at e
        cases e
        obtain ⟨x, x1, x2⟩ := dpAll_get h3 hd
        obtain ⟨y, y1, y2⟩ := dpAll_get h4 he
        refine ⟨⟨vs, us, x, y, held_sq fh h1, held_sq fh h2, x1, y1⟩, fun v H1 ⟨T, x', y', e1, e2, e3, e4, e5⟩ => ?_⟩
        have g1 := e4 vs (held_sq fh h1)
        have g2 := e5 us (held_sq fh h2)
        rw [x1] at g1
        rw [y1] at g2
        cases g1
        cases g2
        subst e1 e3
        exact pair_new fh e2 x2 y2
  | @enT a vs ds h1 h2 =>
    have e := Option.some.inj e
    rw [enumD_get] at e
    obtain ⟨d0, hd, e⟩ := Option.map_eq_some_iff.mp e
    subst e
    obtain ⟨x, x1, x2⟩ := dpAll_get h2 hd
    refine ⟨⟨vs, x, sqT_mono h1 fh, x1⟩, fun v H1 ⟨T, x', e1, e2, e3, e4⟩ => ?_⟩
    have g1 := e4 vs (sqT_mono h1 fh)
    rw [x1] at g1
    cases g1
    subst e1 e3
    rw [Nat.zero_add]
    exact pair_new fh e2 (.int _) x2
  | @enL a vs ds h1 h2 =>
    have e := Option.some.inj e
    rw [enumD_get] at e
    obtain ⟨d0, hd, e⟩ := Option.map_eq_some_iff.mp e
    subst e
    obtain ⟨x, x1, x2⟩ := dpAll_get h2 hd
    rw [Nat.zero_add]
    exact se (held_sq fh h1) x1 x2
  | @enV a i h =>
    obtain ⟨vs, x, d', g1, g2, g3, g4⟩ := live_go h fh er e
    have g4 : d = .tuple [.int (j : Nat), d'] := g4
    subst g4
    exact se g1 g2 g3
/-- an iterable's reading -/
def TIt (K : PySem.W.Frag) (Γ : Ctx) (it : It) : TI := fun σ H R => ∃ F env fo src n env', Same F H ∧ ER K F H σ env fo ∧ evIt Γ it env = some (src, n, env') ∧
  ∀ J F' H' fo', Step F H (ofF fo) F' H' (ofF fo') → ER K F' H' σ env' fo' → Wk K σ F' H' (ofF fo') J src → R J H'
def iSeq (K : PySem.W.Frag) (tl : TE) : TI := fun σ H R => tl σ H fun x H1 => ∃ a, x = .ref a ∧ (((∃ xs, SqL K H1 a xs) ∧ R (Itl K a) H1) ∨ ((∃ xs, SqT K H1 a xs) ∧ R (Itt K a) H1))
theorem it_seq {e : E} {R : L2.It → Hp → Prop} (h : TIt K Γ (.seq e) σ H R) : iSeq K (TEv K Γ e) σ H R := by
  obtain ⟨F, env, fo, src, n, env', fh, er, ee, q⟩ := h
  unfold evIt at ee
  cases h1 : ev Γ e env with
  | none => rw [h1] at ee; cases ee
  | some z =>
    obtain ⟨r, env1⟩ := z
    rw [h1] at ee
    obtain ⟨⟨s1, n1⟩, g1, g2⟩ := Option.map_eq_some_iff.mp ee
    cases g2
    refine ⟨F, env, fo, r, env', fh, er, h1, fun v F1 H1 fo1 l p => ?_⟩
    have st := p.step
    have rr := p.rr
    cases r with
    | own t =>
      cases rr with
      | own o =>
        cases t with
        | leaf d =>
          cases o with
          | leaf o =>
            cases d with
            | list ds =>
              cases g1
              cases o with
              | lst a1 a2 => exact ⟨_, rfl, .inl ⟨⟨_, (sqX_mono a1 p.st.fh).sq⟩, q _ F1 H1 fo1 st p.er (.lst a1 a2)⟩⟩
            | tuple ds =>
              cases g1
              cases o with
              | tup a1 a2 => exact ⟨_, rfl, .inr ⟨⟨_, sqT_mono a1 p.st.fh⟩, q _ F1 H1 fo1 st p.er (.tup a1 a2)⟩⟩
            | _ => cases g1
        | nod g ts =>
          obtain rfl : g = none := by
            cases g with
            | none => rfl
            | some _ => cases g1
          cases o with
          | @nod a _ vs _ l' a1 a0 a2 a3 =>
            replace a1 : H1 a = some (.lst vs) := a1
            unfold srcOf at g1
            simp only at g1
            cases hl : leaves ts with
            | none => rw [hl] at g1; cases g1
            | some ds =>
              rw [hl] at g1
              cases g1
              obtain ⟨b1, b2, b3⟩ := ors_leaves ts ds vs l' hl a3
              exact ⟨_, rfl, .inl ⟨⟨_, SqL.of a1⟩, q _ F1 H1 fo1 st p.er (.own a1 (p.dj a List.mem_cons_self) b2)⟩⟩
    | al i pth =>
      cases pth with
      | cons _ _ => cases g1
      | nil =>
        cases rr with
        | al w =>
          obtain ⟨v0, hv, hw⟩ := w
          have hw : v0 = v := hw
          subst hw
          unfold srcOf at g1
          simp only at g1
          cases hq : env'[i]? with
          | none => rw [hq] at g1; cases g1
          | some o =>
            rw [hq] at g1
            cases o with
            | none => cases g1
            | some t =>
              cases t with
              | leaf _ => cases g1
              | nod g ts =>
                obtain rfl : g = none := by
                  cases g with
                  | none => rfl
                  | some _ => cases g1
                cases g1
                obtain ⟨v1, c1, c2⟩ := p.er.rep i _ hq
                generalize fo1 i = lf at c2
                rw [hv] at c1; cases c1
                cases c2 with
                | nod u1 u0 u2 u3 => exact ⟨_, rfl, .inl ⟨⟨_, SqL.of (show H1 _ = some (.lst _) from u1)⟩, q _ F1 H1 fo1 st p.er (.live hv)⟩⟩
theorem it_enum {e : E} {R : L2.It → Hp → Prop} (h : TIt K Γ (.enum e) σ H R) : iEnumA K (fun σ H Q => TEv K Γ e σ H fun x H1 => Q [x] H1) σ H R := by
  obtain ⟨F, env, fo, src, n, env', fh, er, ee, q⟩ := h
  unfold evIt at ee
  cases h1 : ev Γ e env with
  | none => rw [h1] at ee; cases ee
  | some z =>
    obtain ⟨r, env1⟩ := z
    rw [h1] at ee
    obtain ⟨⟨s1, n1⟩, g1, g2⟩ := Option.map_eq_some_iff.mp ee
    cases g2
    refine ⟨F, env, fo, r, env', fh, er, h1, fun v F1 H1 fo1 l p => ?_⟩
    have st := p.step
    have rr := p.rr
    cases r with
    | own t =>
      cases rr with
      | own o =>
        cases t with
        | leaf d =>
          cases o with
          | leaf o =>
            cases d with
            | list ds =>
              cases g1
              cases o with
              | lst a1 a2 => exact ⟨_, _, rfl, .inl ⟨(sqX_mono a1 p.st.fh).sq, q _ F1 H1 fo1 st p.er (.enL (.inl a1) a2)⟩⟩
            | tuple ds =>
              cases g1
              cases o with
              | tup a1 a2 => exact ⟨_, _, rfl, .inr ⟨sqT_mono a1 p.st.fh, q _ F1 H1 fo1 st p.er (.enT a1 a2)⟩⟩
            | _ => cases g1
        | nod g ts =>
          obtain rfl : g = none := by
            cases g with
            | none => rfl
            | some _ => cases g1
          cases o with
          | @nod a _ vs _ l' a1 a0 a2 a3 =>
            replace a1 : H1 a = some (.lst vs) := a1
            unfold srcOf at g1
            simp only at g1
            cases hl : leaves ts with
            | none => rw [hl] at g1; cases g1
            | some ds =>
              rw [hl] at g1
              cases g1
              obtain ⟨b1, b2, b3⟩ := ors_leaves ts ds vs l' hl a3
              exact ⟨_, _, rfl, .inl ⟨SqL.of a1, q _ F1 H1 fo1 st p.er (.enL (.inr ⟨a1, p.dj a List.mem_cons_self⟩) b2)⟩⟩
    | al i pth =>
      cases pth with
      | cons _ _ => cases g1
      | nil =>
        cases rr with
        | al w =>
          obtain ⟨v0, hv, hw⟩ := w
          have hw : v0 = v := hw
          subst hw
          unfold srcOf at g1
          simp only at g1
          cases hq : env'[i]? with
          | none => rw [hq] at g1; cases g1
          | some o =>
            rw [hq] at g1
            cases o with
            | none => cases g1
            | some t =>
              cases t with
              | leaf _ => cases g1
              | nod g ts =>
                obtain rfl : g = none := by
                  cases g with
                  | none => rfl
                  | some _ => cases g1
                cases g1
                obtain ⟨v1, c1, c2⟩ := p.er.rep i _ hq
                generalize fo1 i = lf at c2
                rw [hv] at c1; cases c1
                cases c2 with
                | nod u1 u0 u2 u3 => exact ⟨_, _, rfl, .inl ⟨SqL.of (show H1 _ = some (.lst _) from u1), q _ F1 H1 fo1 st p.er (.enV hv)⟩⟩
theorem dats_cons {env : Env} {r : R} {rs : List R} {ds : List D} (h : dats env (r :: rs) = some ds) : ∃ d es, ds = d :: es ∧ r.dat env = some d ∧ dats env rs = some es := by
  unfold dats at h
  cases e1 : r.dat env with
  | none => rw [e1] at h; cases h
  | some d =>
    rw [e1] at h
    obtain ⟨es, q1, q2⟩ := Option.map_eq_some_iff.mp h
    exact ⟨d, es, q2.symm, rfl, q1⟩
theorem it_range {as : Es} {R : L2.It → Hp → Prop} (h : TIt K Γ (.range as) σ H R) : seqT K Γ as σ H fun vs H1 => (∃ j : Int, vs = [.int j] ∧ -(2 ^ 62) ≤ j ∧ j < 2 ^ 62 ∧ R (Itr 0 j.toNat) H1) ∨ (∃ i j : Int, vs = [.int i, .int j] ∧ (-(2 ^ 62) ≤ i ∧ i < 2 ^ 62 ∧ -(2 ^ 62) ≤ j ∧ j < 2 ^ 62) ∧ R (Itr i (j - i).toNat) H1) := by
  obtain ⟨F, env, fo, src, n, env', fh, er, ee, q⟩ := h
  unfold evIt at ee
  cases h1 : evs Γ as env with
  | none => rw [h1] at ee; cases ee
  | some z =>
    obtain ⟨rs, env1⟩ := z
    rw [h1] at ee
    simp only at ee
    cases h2 : dats env1 rs with
    | none => rw [h2] at ee; cases ee
    | some ds =>
      rw [h2] at ee
      obtain ⟨⟨s1, n1⟩, g1, g2⟩ := Option.map_eq_some_iff.mp ee
      cases g2
      refine evs_seq as F H env env' fo rs _ fh er h1 fun vs F1 H1 fo1 l p => ?_
      have st : Step F H (ofF fo) F1 H1 (ofF fo1) := p.st.weak fun a z => .inr z
      have dd := dats_rep p.st.fh p.er p.rr h2
      unfold rangeSrc at g1
      split at g1
      · rename_i hi
        split at g1
        · rename_i c
          cases g1
          cases dd with
          | cons d1 dd =>
            cases dd
            cases d1
            exact .inl ⟨_, rfl, c.1, c.2, q _ F1 H1 fo1 st p.er .rng⟩
        · cases g1
      · rename_i lo hi
        split at g1
        · rename_i c
          cases g1
          cases dd with
          | cons d1 dd =>
            cases dd with
            | cons d2 dd =>
              cases dd
              cases d1
              cases d2
              exact .inr ⟨_, _, rfl, ⟨c.1.1, c.1.2, c.2.1, c.2.2⟩, q _ F1 H1 fo1 st p.er .rng⟩
        · cases g1
      · cases g1
theorem or_shl {v : V} {t : OT} {l : List Addr} {ds : List D} (h : OR K F H v t l) (e : t.sh = some (.list ds)) : ∃ a vs, v = .ref a ∧ (SqX K F a vs ∨ H a = some (.lst vs) ∧ a ∈ l) ∧ DqAll K F vs ds := by
  cases h with
  | leaf h =>
    cases e
    cases h with | lst a b => exact ⟨_, _, rfl, .inl a, b⟩
  | @nod a g vs ts m h1 h0 h2 h3 =>
    obtain rfl : g = none := by
      cases g with
      | none => rfl
      | some _ => cases e
    obtain ⟨es, e1, e2⟩ := Option.map_eq_some_iff.mp e
    cases e2
    obtain ⟨_, q, _⟩ := ors_leaves ts ds vs m e1 h3
    exact ⟨a, vs, rfl, .inr ⟨h1, List.mem_cons_self⟩, q⟩
theorem or_sht {v : V} {t : OT} {l : List Addr} {ds : List D} (h : OR K F H v t l) (e : t.sh = some (.tuple ds)) : ∃ a vs, v = .ref a ∧ SqT K F a vs ∧ DqAll K F vs ds := by
  cases h with
  | leaf h =>
    cases e
    cases h with | tup a b => exact ⟨_, _, rfl, a, b⟩
  | @nod a g vs ts m h1 h0 h2 h3 =>
    obtain rfl : g = none := by
      cases g with
      | none => rfl
      | some _ => cases e
    obtain ⟨es, e1, e2⟩ := Option.map_eq_some_iff.mp e
    cases e2
theorem it_zip {a b : E} {R : L2.It → Hp → Prop} (h : TIt K Γ (.zip a b) σ H R) : RZ.iZipA K (fun σ H Q => seqT K Γ (.cons a (.cons b .nil)) σ H Q) σ H R := by
  obtain ⟨F, env, fo, src, n, env', fh, er, ee, q⟩ := h
  unfold evIt at ee
  cases h1 : ev Γ a env with
  | none => rw [h1] at ee; cases ee
  | some z =>
    obtain ⟨ra, e1⟩ := z
    rw [h1] at ee
    simp only at ee
    cases h2 : ra.take e1 with
    | none => rw [h2] at ee; cases ee
    | some z =>
      obtain ⟨ta, e2⟩ := z
      rw [h2] at ee
      simp only at ee
      cases h3 : ev Γ b e2 with
      | none => rw [h3] at ee; cases ee
      | some z =>
        obtain ⟨rb, e3⟩ := z
        rw [h3] at ee
        simp only at ee
        cases h4 : rb.take e3 with
        | none => rw [h4] at ee; cases ee
        | some z =>
          obtain ⟨tb, e4⟩ := z
          rw [h4] at ee
          simp only at ee
          refine ⟨F, env, fo, ra, e1, fh, er, h1, fun v F1 H1 fo1 l1 p1 => ?_⟩
          obtain ⟨F2, fo2, l2, s2, er2, o2, n2, d2, i2, sb2, len2⟩ := take_rep p1.st.fh p1.er p1.rr p1.nd p1.dj h2
          refine ⟨F2, e2, fo2, rb, e3, s2.fh, er2, h3, fun u F3 H3 fo3 l3 p3 => ?_⟩
          obtain ⟨F4, fo4, l4, s4, er4, o4, n4, d4, i4, sb4, len4⟩ := take_rep p3.st.fh p3.er p3.rr p3.nd p3.dj h4
          have s34 : Step F2 H1 (ofF fo2) F4 H3 (fun x => x ∈ l4 ∨ ofF fo4 x) := p3.out.trans s4
          have oa : OR K F4 H3 v ta l2 := or_keep s34.fs _ _ _ o2 fun x o hx ho => s34.keep x o ho (d2 x hx)
          have out : ∀ x ∈ l2, ¬ ofF fo4 x := fun x hx z => by
            rcases s34.own x (.inr z) with y | y
            · exact d2 x hx y
            · obtain ⟨⟨o, w⟩, _⟩ := or_foot _ _ _ o2 x hx
              rw [w] at y; cases y
          have tot : Step F H (ofF fo) F4 H3 (ofF fo4) := (p1.out.trans (s2.weak (L2 := ofF fo2) fun x z => .inr z)).trans (s34.weak fun x z => .inr z)
          split at ee
          · rename_i xs ys ex ey
            cases ee
            obtain ⟨p, vs, rfl, g1, g2⟩ := or_shl oa ex
            obtain ⟨r, us, rfl, g3, g4⟩ := or_shl o4 ey
            have w1 : SqX K F4 p vs ∨ H3 p = some (.lst vs) ∧ ¬ ofF fo4 p := g1.imp id fun z => ⟨z.1, out p z.2⟩
            have w2 : SqX K F4 r us ∨ H3 r = some (.lst us) ∧ ¬ ofF fo4 r := g3.imp id fun z => ⟨z.1, d4 r z.2⟩
            exact ⟨p, r, vs, us, rfl, .inl ⟨held_sq s4.fh w1, held_sq s4.fh w2, q _ F4 H3 fo4 tot er4 (.zipL w1 w2 g2 g4)⟩⟩
          · rename_i xs ys ex ey
            cases ee
            obtain ⟨p, vs, rfl, g1, g2⟩ := or_sht oa ex
            obtain ⟨r, us, rfl, g3, g4⟩ := or_sht o4 ey
            exact ⟨p, r, vs, us, rfl, .inr ⟨sqT_mono g1 s4.fh, sqT_mono g3 s4.fh, q _ F4 H3 fo4 tot er4 (.zipT g1 g3 g2 g4)⟩⟩
          · cases ee
end
section
variable {P : List Def} {k : Nat} {N : List Str} {sc : Scope} {top : Bool} {X : Cx} {Γ : Ctx} {tg : Expr}
theorem PI.imp {e : Expr} {t t' : TI} (h : PI X tg e t) (q : ∀ σ H Q, t' σ H Q → t σ H Q) : PI X tg e t' := ⟨fun pins s σ H Q I w => h.run pins s σ H Q I (q σ H Q w)⟩
theorem pi_seq {l : Expr} {tl : TE} (hl : PE X l tl) : PI X tg l (iSeq X.K tl) := by
  refine ⟨fun pins s σ H R I h => ?_⟩
  refine thn (hl.run pins s σ H _ I h) fun v s1 ⟨x, H1, I1, r1, q1⟩ => ?_
  obtain ⟨a, e, q1⟩ := q1
  subst e
  cases r1
  rcases q1 with ⟨⟨xs, hq⟩, q⟩ | ⟨⟨xs, hq⟩, q⟩
  · obtain ⟨its, rv, p, hz⟩ := I1.list hq
    refine wpAny_pyIter_list p.isList ?_
    refine ⟨s1.heap.objs.size, [s1.heap.objs.size], _, _, H1, rfl, I1.kept (t' := s1.toks) fun b o e => Heap.get?_push_of_some _ e, turn_list a _, ⟨_, Heap.get?_push_size _ rfl, rfl, rfl⟩, fun b hb => ?_, q⟩
    have e : b = s1.heap.objs.size := by simpa using hb
    subst e
    exact I1.fpOk (Nat.le_refl _) (I1.hok.fresh (Nat.le_refl _))
  · obtain ⟨its, rv, p, hz⟩ := I1.tuple hq
    refine wpAny_pyIter_tuple (show s1.heap.IsTuple a its.toArray from p) ?_
    refine ⟨s1.heap.objs.size, [s1.heap.objs.size], _, _, H1, rfl, I1.kept (t' := s1.toks) fun b o e => Heap.get?_push_of_some _ e, turn_tuple a _, ⟨_, Heap.get?_push_size _ rfl, rfl, rfl⟩, fun b hb => ?_, q⟩
    have e : b = s1.heap.objs.size := by simpa using hb
    subst e
    exact I1.fpOk (Nat.le_refl _) (I1.hok.fresh (Nat.le_refl _))
theorem ok_seq {e : E} {x : Expr} (h : PE X x (TEv X.K Γ e)) : PI X tg x (TIt X.K Γ (.seq e)) := PI.imp (pi_seq h) fun σ H Q q => it_seq q
theorem ok_range (c : CxOk P k N sc top X) {as : Es} {args : List Expr} {p pos : Pos} (hg : glB sc "range" = true) (hl : as.len = 1 ∨ as.len = 2) (h : PEs X Γ as args) : PI X tg (.Call (.Name "range" p) args [] pos) (TIt X.K Γ (.range as)) := by
  have len := pes_len h
  have gl := c.gl hg
  have mg := c.blt "range" (by decide)
  rcases hl with hl | hl
  · obtain ⟨a, rfl⟩ : ∃ a, args = [a] := by
      cases args with
      | nil => rw [hl] at len; cases len
      | cons a r => cases r with
        | nil => exact ⟨a, rfl⟩
        | cons _ _ => rw [hl] at len; simp at len
    obtain ⟨x, rfl, pa, ns⟩ := pes1 h
    refine PI.imp (pi_range1 gl mg (pas h) (star_of ns _ _)) fun σ H Q q => seqT_mono (seqT_len (it_range q)) fun vs H1 ⟨l1, q1⟩ => ?_
    rcases q1 with q1 | ⟨i, j, rfl, _⟩
    · exact q1
    · cases l1
  · obtain ⟨a, b, rfl⟩ : ∃ a b, args = [a, b] := by
      cases args with
      | nil => rw [hl] at len; cases len
      | cons a r => cases r with
        | nil => rw [hl] at len; simp at len
        | cons b r => cases r with
          | nil => exact ⟨a, b, rfl⟩
          | cons _ _ => rw [hl] at len; simp at len
    obtain ⟨x, y, rfl, pa, pb, ns, ms⟩ := pes2 h
    refine PI.imp (pi_range2 gl mg (pas h) (by rw [star_of ns, star_of ms]; rfl) (star_of ms _ _)) fun σ H Q q => seqT_mono (seqT_len (it_range q)) fun vs H1 ⟨l1, q1⟩ => ?_
    rcases q1 with ⟨j, rfl, _⟩ | q1
    · cases l1
    · exact q1
theorem ok_zip (c : CxOk P k N sc top X) {a b : E} {x y : Expr} {p pos tpos : Pos} {elts : List Expr} {kk : Nat} (hg : glB sc "zip" = true) (ha : PE X x (TEv X.K Γ a)) (hb : PE X y (TEv X.K Γ b)) (na : notStar x = true) (nb : notStar y = true) : PI X (.Tuple elts kk tpos) (.Call (.Name "zip" p) [x, y] [] pos) (TIt X.K Γ (.zip a b)) :=
  PI.imp (RZ.pi_zipA (c.gl hg) (c.blt "zip" (by decide)) (pas (.cons ha na (.cons hb nb .nil))) (star_of na _ _) (by rw [star_of nb]; rfl)) fun σ H Q q => it_zip q
theorem ok_enum (c : CxOk P k N sc top X) {a : E} {x : Expr} {p pos tpos : Pos} {elts : List Expr} {kk : Nat} (hg : glB sc "enumerate" = true) (ha : PE X x (TEv X.K Γ a)) (na : notStar x = true) : PI X (.Tuple elts kk tpos) (.Call (.Name "enumerate" p) [x] [] pos) (TIt X.K Γ (.enum a)) :=
  PI.imp (pi_enumA (c.gl hg) (c.blt "enumerate" (by decide)) (pa_cons ha pa_nil (star_of na _ _)) (star_of na _ _)) fun σ H Q q => it_enum q
end
end PyI

/-! Comprehensions. -/
namespace PyI
open PySem PySem.Spec PyProof.Rows L2
theorem wipeE_len (env : Env) : ∀ vs : List Nat, (wipeE env vs).length = env.length
  | [] => rfl
  | v :: vs => by unfold wipeE; rw [List.length_set, wipeE_len env vs]
theorem wipeE_in {env : Env} {i : Nat} : ∀ {vs : List Nat}, i ∈ vs → ∀ t, (wipeE env vs)[i]? ≠ some (some t)
  | v :: vs, h, t => by
    unfold wipeE
    by_cases c : v = i
    · subst c
      intro z
      by_cases hl : v < (wipeE env vs).length
      · rw [List.getElem?_set_self hl] at z; cases z
      · rw [List.getElem?_eq_none (by simpa using hl)] at z; cases z
    · rw [List.getElem?_set_ne c]
      exact wipeE_in ((List.mem_cons.mp h).resolve_left (Ne.symm c)) t
theorem wipeE_out {env : Env} {i : Nat} : ∀ {vs : List Nat}, i ∉ vs → (wipeE env vs)[i]? = env[i]?
  | [], _ => rfl
  | v :: vs, h => by
    unfold wipeE
    rw [List.getElem?_set_ne fun z => h (by rw [z]; exact List.mem_cons_self)]
    exact wipeE_out fun z => h (List.mem_cons_of_mem _ z)
theorem restore_len (e0 env : Env) : ∀ vs : List Nat, (restore e0 vs env).length = env.length
  | [] => rfl
  | v :: vs => by unfold restore; rw [List.length_set, restore_len e0 env vs]
theorem restore_out {e0 env : Env} {i : Nat} : ∀ {vs : List Nat}, i ∉ vs → (restore e0 vs env)[i]? = env[i]?
  | [], _ => rfl
  | v :: vs, h => by
    unfold restore
    rw [List.getElem?_set_ne fun z => h (by rw [z]; exact List.mem_cons_self)]
    exact restore_out fun z => h (List.mem_cons_of_mem _ z)
theorem restore_in {e0 env : Env} {i : Nat} : ∀ {vs : List Nat}, i ∈ vs → i < env.length → (restore e0 vs env)[i]? = some (e0.getD i none)
  | v :: vs, h, hl => by
    unfold restore
    by_cases c : v = i
    · subst c
      rw [List.getElem?_set_self (by rw [restore_len]; exact hl)]
    · rw [List.getElem?_set_ne c]
      exact restore_in ((List.mem_cons.mp h).resolve_left (Ne.symm c)) hl
theorem get_wipe {src : Src} {vs : List Nat} {j : Nat} {env : Env} (h : src.free vs = true) : src.get j (wipeE env vs) = src.get j env := by
  cases src with
  | fix _ => rfl
  | live i w =>
    unfold Src.get
    simp only
    rw [wipeE_out]
    intro z
    unfold Src.free at h
    simp [z] at h
theorem wipe_none {σ : L2.St} {i : Nat} : ∀ {vs : List Nat}, i ∈ vs → i < σ.length → (wipe σ vs)[i]? = some none
  | v :: vs, h, hl => by
    unfold wipe
    by_cases c : v = i
    · subst c
      rw [List.getElem?_set_self (by rw [wipe_length]; exact hl)]
    · rw [List.getElem?_set_ne c]
      exact wipe_none ((List.mem_cons.mp h).resolve_left (Ne.symm c)) hl
/-- the same slots off the block's own ones -/
theorem wipe_ag {σ σ' : L2.St} {vs l : List Nat} (a : Ag l (wipe σ vs) σ') (h : ∀ i ∈ l, i ∈ vs) : wipe σ' vs = wipe σ vs := by
  have hl : σ'.length = σ.length := by rw [a.1, wipe_length]
  refine List.ext_getElem? fun i => ?_
  by_cases c : i ∈ vs
  · by_cases hi : i < σ.length
    · rw [wipe_none c (by rw [hl]; exact hi), wipe_none c hi]
    · rw [List.getElem?_eq_none (by rw [wipe_length, hl]; omega), List.getElem?_eq_none (by rw [wipe_length]; omega)]
  · rw [wipe_out c, a.2 i fun z => c (h i z)]
section
variable {K : PySem.W.Frag} {σ : L2.St} {Γ : Ctx} {F H : Hp} {env : Env} {fo : Nat → List Addr}
theorem er_wipe (er : ER K F H σ env fo) : ∀ vs : List Nat, ∃ fo', ER K F H (wipe σ vs) (wipeE env vs) fo' ∧ ∀ a, ofF fo' a → ofF fo a
  | [] => ⟨fo, er, fun _ z => z⟩
  | v :: vs => by
    obtain ⟨fo', h1, h2⟩ := er_wipe er vs
    exact ⟨_, h1.drop v (.inl rfl), fun a z => h2 a (ofF_forget h1 z).1⟩
theorem slotsFree_of : ∀ {vs : List Nat} {i : Nat} {g : Option (List Key)} {ts : List OT}, slotsFree env vs = true → i ∈ vs → env[i]? ≠ some (some (.nod g ts))
  | v :: vs, i, g, ts, h, hi => by
    unfold slotsFree at h
    obtain ⟨h1, h2⟩ := Bool.and_eq_true_iff.mp h
    rcases List.mem_cons.mp hi with z | z
    · subst z
      intro w
      rw [w] at h1
      cases h1
    · exact slotsFree_of h2 z
/-- the block's end: the slots as they were -/
theorem er_restore {F0 H0 : Hp} {env0 : Env} {fo0 : Nat → List Addr} {vs : List Nat} (er0 : ER K F0 H0 σ env0 fo0) (sf : slotsFree env0 vs = true) (fs : Same F0 F) (er : ER K F H (wipe σ vs) (wipeE env vs) fo) : ER K F H σ (restore env0 vs env) fo := by
  have hl : σ.length = env.length := by
    have := er.len
    rwa [wipe_length, wipeE_len] at this
  refine ⟨by rw [restore_len]; exact hl, fun i t h => ?_, fun i h => ?_, er.nd, er.dj⟩
  · by_cases c : i ∈ vs
    · by_cases hi : i < env.length
      · rw [restore_in c hi] at h
        have h := Option.some.inj h
        have h0 : env0[i]? = some (some t) := by
          rw [List.getD_eq_getElem?_getD] at h
          cases hq : env0[i]? with
          | none => rw [hq] at h; cases h
          | some o => rw [hq] at h; rw [show o = some t from h]
        obtain ⟨v, g1, g2⟩ := er0.rep i t h0
        refine ⟨v, g1, ?_⟩
        rw [er.non i (wipeE_in c)]
        generalize fo0 i = lf at g2
        cases t with
        | nod g ts => exact absurd h0 (slotsFree_of sf c)
        | leaf d => cases g2 with | leaf g2 => exact .leaf (dp_mono fs _ _ g2)
      · rw [List.getElem?_eq_none (by rw [restore_len]; omega)] at h
        cases h
    · rw [restore_out c, ← wipeE_out c] at h
      obtain ⟨v, g1, g2⟩ := er.rep i t h
      rw [wipe_out c] at g1
      exact ⟨v, g1, g2⟩
  · by_cases c : i ∈ vs
    · exact er.non i (wipeE_in c)
    · refine er.non i fun t => ?_
      rw [wipeE_out c, ← restore_out (e0 := env0) c]
      exact h t
/-- a turn -/
def compStep (Γ : Ctx) (elt : E) (t : T) (cond : C) (vs : List Nat) : D → Env → Option (Option OT × Env) := fun d e => match setT Γ t (.leaf d) (wipeE e vs) with
  | some e1 => match evC Γ cond e1 with
    | some (true, e2) => match ev Γ elt e2 with
      | some (r, e3) => match r.take e3 with
        | some (x, e4) => some (some x, e4)
        | none => none
      | none => none
    | some (false, e2) => some (none, e2)
    | none => none
  | none => none
def tC (K : PySem.W.Frag) (Γ : Ctx) : C → TT
  | .non => tYes
  | .some e => TTv K Γ e
theorem cond_rd {cond : C} {b : Bool} {env' : Env} {Q : Bool → Hp → Prop} (fh : Same F H) (er : ER K F H σ env fo) (e : evC Γ cond env = some (b, env')) (q : ∀ F' H' fo', Step F H (ofF fo) F' H' (ofF fo') → ER K F' H' σ env' fo' → Q b H') : tC K Γ cond σ H Q := by
  cases cond with
  | non =>
    unfold evC at e
    cases e
    exact q F H fo (.refl fh fun _ z => z) er
  | some c =>
    unfold evC at e
    exact ⟨F, env, fo, b, env', fh, er, e, q⟩
theorem comp_rd {elt : E} {t : T} {it : It} {cond : C} {own : List (Str × Nat)} {Q : VK} (ht : ∀ i ∈ t.asgs, i ∈ own.map (·.2)) (h : TEv K Γ (.comp elt t it cond own) σ H Q) : tLc (TIt K Γ it) (TTg K Γ t) (tC K Γ cond) (TEv K Γ elt) (own.map (·.2)) σ H Q := by
  obtain ⟨F, env, fo, r, env', fh, er, e, q⟩ := h
  unfold ev at e
  cases h1 : evIt Γ it env with
  | none => rw [h1] at e; cases e
  | some z =>
    obtain ⟨src, n, env1⟩ := z
    rw [h1] at e
    simp only at e
    generalize own.map (·.2) = vs at ht e ⊢
    cases hb : (slotsFree env1 vs && src.free vs) with
    | false => rw [hb] at e; cases e
    | true =>
      rw [hb] at e
      simp only [if_true] at e
      obtain ⟨sf, hfr⟩ := Bool.and_eq_true_iff.mp hb
      cases hc : compLoop src.get (compStep Γ elt t cond vs) n 0 [] env1 with
      | none =>
        exact absurd (show none = some (r, env') by
          rw [← e]
          show none = (match compLoop src.get (compStep Γ elt t cond vs) n 0 [] env1 with
            | some (ts, env2) => some (R.own (.lst ts), restore env1 vs env2)
            | none => none)
          rw [hc]) (fun z => nomatch z)
      | some z =>
        obtain ⟨ts, env2⟩ := z
        have e : some (R.own (.lst ts), restore env1 vs env2) = some (r, env') := by
          rw [← e]
          show _ = (match compLoop src.get (compStep Γ elt t cond vs) n 0 [] env1 with
            | some (ts, env2) => some (R.own (.lst ts), restore env1 vs env2)
            | none => none)
          rw [hc]
        cases e
        refine ⟨F, env, fo, src, n, env1, fh, er, h1, fun J F1 H1 fo1 s1 er1 wk D hD => ?_⟩
        have F1D : F1 D = none := by
          cases hq : F1 D with
          | none => rfl
          | some o => rw [s1.fh D o hq] at hD; cases hD
        refine ⟨fun i m H2 => ∃ F2 fo2 e2 acc xs l, Step F1 H1 (ofF fo1) F2 H2 (fun a => a ∈ D :: l ∨ ofF fo2 a) ∧ ER K F2 H2 (wipe σ vs) (wipeE e2 vs) fo2 ∧ H2 D = some (.lst xs) ∧ F2 D = none ∧ ORs K F2 H2 xs acc l ∧ (D :: l).Nodup ∧ (∀ a ∈ D :: l, ¬ ofF fo2 a) ∧
          Wk K (wipe σ vs) F2 H2 (fun a => a ∈ D :: l ∨ ofF fo2 a) J src ∧ compLoop src.get (compStep Γ elt t cond vs) m i acc e2 = some (ts, env2), ⟨n, ?_⟩, ?_⟩
        · obtain ⟨fo2, w1, w2⟩ := er_wipe er1 vs
          have ne : ∀ b o, H1 b = some o → b ≠ D := fun b o hb z => by rw [z, hD] at hb; cases hb
          have st : Step F1 H1 (ofF fo1) F1 (upd H1 D (.lst [])) (fun a => a ∈ D :: ([] : List Addr) ∨ ofF fo2 a) :=
            ⟨Same.refl F1, fun b o hb => by rw [upd_ne (ne b o (s1.fh b o hb))]; exact s1.fh b o hb, fun b o hb _ => ⟨by rw [upd_ne (ne b o hb)]; exact hb, rfl⟩, fun b hb => by
              by_cases c : b = D
              · rw [c]; exact hD
              · rw [upd_ne c] at hb; exact hb, fun a z => z.elim (fun y => .inr (by rw [show a = D by simpa using y]; exact hD)) fun y => .inl (w2 a y)⟩
          refine ⟨F1, fo2, env1, [], [], [], st, ?_, upd_same, F1D, .nil, by simp, fun a ha z => ?_, wk.step st hfr ⟨wipe_length _ _, fun i hi => wipe_out hi⟩, hc⟩
          · refine w1.kept (Same.refl F1) fun a o ha ho => ⟨by rw [upd_ne (ne a o ho)]; exact ho, rfl⟩
          · have : a = D := by simpa using ha
            obtain ⟨⟨o, y⟩, _⟩ := w1.there z
            rw [this, hD] at y; cases y
        · rintro i m H2 ⟨F2, fo2, e2, acc, xs, l, S, er2, hx, fD, oX, nd, dj, wk2, hl⟩
          have nd' := List.nodup_cons.mp nd
          cases hg : src.get i e2 with
          | none => unfold compLoop at hl; rw [hg] at hl; cases hl
          | some od =>
            cases od with
            | none =>
              have hl' : some (acc, e2) = some (ts, env2) := by
                rw [← hl]
                unfold compLoop
                rw [hg]
              cases hl'
              refine .inl ⟨wk2.stop S.fh er2 (by rw [get_wipe hfr]; exact hg), ?_⟩
              refine q (.ref D) F2 H2 fo2 (D :: l) ⟨?_, er_restore er1 sf S.fs er2, nd, dj, .own (.lst hx fD oX), fun z => nomatch z⟩
              exact (step1 s1).sub (fun a z => z) |>.trans (S.sub fun a z => .inr z)
            | some d =>
              unfold compLoop at hl
              rw [hg] at hl
              simp only at hl
              cases m with
              | zero => cases hl
              | succ m =>
                simp only at hl
                cases hs : compStep Γ elt t cond vs d e2 with
                | none => rw [hs] at hl; cases hl
                | some z =>
                  obtain ⟨ox, e4⟩ := z
                  rw [hs] at hl
                  obtain ⟨g1, g2⟩ := wk2.go S.fh er2 (by rw [get_wipe hfr]; exact hg)
                  refine .inr ⟨g1, fun H' => ∃ F2 fo2 e2 acc xs l, Step F1 H1 (ofF fo1) F2 H' (fun a => a ∈ D :: l ∨ ofF fo2 a) ∧ ER K F2 H' (wipe σ vs) (wipeE e2 vs) fo2 ∧ H' D = some (.lst xs) ∧ F2 D = none ∧ ORs K F2 H' xs acc l ∧ (D :: l).Nodup ∧ (∀ a ∈ D :: l, ¬ ofF fo2 a) ∧
                    Wk K (wipe σ vs) F2 H' (fun a => a ∈ D :: l ∨ ofF fo2 a) J src ∧ compLoop src.get (compStep Γ elt t cond vs) m (i + 1) acc e2 = some (ts, env2), fun H' h => ⟨m, Nat.lt_succ_self _, h⟩, fun x H3 hy => ?_⟩
                  obtain ⟨F3, s3, dx⟩ := g2 x H3 hy
                  have er3 := er2.step s3 fun _ _ z => z
                  unfold compStep at hs
                  cases q1 : setT Γ t (.leaf d) (wipeE e2 vs) with
                  | none => rw [q1] at hs; cases hs
                  | some f1 =>
                    rw [q1] at hs
                    simp only at hs
                    have s3' : Step F2 H2 (ofF fo2) F3 H3 (ofF fo2) := ((s3.frame (M := ofF fo2) (fun _ _ z => z) fun a z => (er2.there z).1).sub (M := ofF fo2) fun a z => z.elim id (fun y => y.elim)).weak fun a z => .inl z
                    refine ⟨F3, wipeE e2 vs, fo2, .leaf d, [], f1, s3.fh, er3, .leaf dx, List.nodup_nil, (fun _ z => nomatch z), q1, fun σ4 F4 H4 fo4 s4 er4 ag4 => ⟨wipe_ag ag4 ht, ?_⟩⟩
                    have S4 : Step F2 H2 (ofF fo2) F4 H4 (ofF fo4) := s3'.trans (s4.sub fun a z => z.elim (fun y => nomatch y) id)
                    have thM : ∀ a, a ∈ D :: l → ∃ o, H2 a = some o := fun a ha => by
                      rcases List.mem_cons.mp ha with z | z
                      · rw [z]; exact ⟨_, hx⟩
                      · exact (ors_foot _ _ _ oX a z).1
                    -- the turn's end without a new item
                    have next : ∀ {Fe He : Hp} {foe : Nat → List Addr} {ee : Env}, Step F2 H2 (ofF fo2) Fe He (ofF foe) → ER K Fe He σ4 ee foe → compLoop src.get (compStep Γ elt t cond vs) m (i + 1) acc ee = some (ts, env2) →
                        ∃ F2 fo2 e2 acc xs l, Step F1 H1 (ofF fo1) F2 He (fun a => a ∈ D :: l ∨ ofF fo2 a) ∧ ER K F2 He (wipe σ vs) (wipeE e2 vs) fo2 ∧ He D = some (.lst xs) ∧ F2 D = none ∧ ORs K F2 He xs acc l ∧ (D :: l).Nodup ∧ (∀ a ∈ D :: l, ¬ ofF fo2 a) ∧
                          Wk K (wipe σ vs) F2 He (fun a => a ∈ D :: l ∨ ofF fo2 a) J src ∧ compLoop src.get (compStep Γ elt t cond vs) m (i + 1) acc e2 = some (ts, env2) := fun {Fe He foe ee} Se ere hle => by
                      obtain ⟨fo5, w1, w2⟩ := er_wipe ere vs
                      rw [wipe_ag ag4 ht] at w1
                      have kD := Se.keep D _ hx (dj D List.mem_cons_self)
                      have fr := (Se.frame (M := fun a => a ∈ D :: l) (fun a ha => dj a ha) thM).weak (L2 := fun a => a ∈ D :: l ∨ ofF fo5 a) fun a z => z.imp id (w2 a)
                      refine ⟨Fe, fo5, ee, acc, xs, l, S.trans fr, w1, kD.1, kD.2.trans fD, ors_keep Se.fs _ _ _ oX fun a o ha ho => Se.keep a o ho (dj a (List.mem_cons_of_mem _ ha)), nd, fun a ha z => ?_, wk2.step fr hfr (.refl _ _), hle⟩
                      rcases Se.own a (w2 a z) with y | y
                      · exact dj a ha y
                      · obtain ⟨o, u⟩ := thM a ha
                        rw [u] at y; cases y
                    cases q2 : evC Γ cond f1 with
                    | none => rw [q2] at hs; cases hs
                    | some z =>
                      obtain ⟨b, f2⟩ := z
                      rw [q2] at hs
                      refine cond_rd s4.fh er4 q2 fun F5 H5 fo5 s5 er5 => ?_
                      have S5 := S4.trans s5
                      cases b with
                      | false =>
                        cases hs
                        simp only at hl
                        rw [if_neg Bool.false_ne_true]
                        exact next S5 er5 hl
                      | true =>
                        rw [if_pos rfl]
                        simp only at hs
                        cases q3 : ev Γ elt f2 with
                        | none => rw [q3] at hs; cases hs
                        | some z =>
                          obtain ⟨r3, f3⟩ := z
                          rw [q3] at hs
                          simp only at hs
                          cases q4 : r3.take f3 with
                          | none => rw [q4] at hs; cases hs
                          | some z =>
                            obtain ⟨x4, f4⟩ := z
                            rw [q4] at hs
                            cases hs
                            simp only at hl
                            by_cases hz : acc.length < sizeLine
                            · rw [if_pos hz] at hl
                              refine ⟨F5, f2, fo5, r3, f3, s5.fh, er5, q3, fun y F6 H6 fo6 l6 p => ?_⟩
                              obtain ⟨F7, fo7, l7, s7, er7, o7, n7, d7, i7, sb7, len7⟩ := take_rep p.st.fh p.er p.rr p.nd p.dj q4
                              have S7 : Step F2 H2 (ofF fo2) F7 H6 (fun a => a ∈ l7 ∨ ofF fo7 a) := S5.trans (p.out.trans s7)
                              have kD := S7.keep D _ hx (dj D List.mem_cons_self)
                              have djM : ∀ a ∈ D :: l, ¬ (a ∈ l7 ∨ ofF fo7 a) := fun a ha z => by
                                rcases S7.own a z with y | y
                                · exact dj a ha y
                                · obtain ⟨o, u⟩ := thM a ha
                                  rw [u] at y; cases y
                              refine ⟨xs, kD.1, by rw [ors_length oX]; exact hz, ?_⟩
                              obtain ⟨fo8, w1, w2⟩ := er_wipe er7 vs
                              rw [wipe_ag ag4 ht] at w1
                              have fr := S7.frame (M := fun a => a ∈ D :: l) (fun a ha => dj a ha) thM
                              have Fd : F7 D = none := kD.2.trans fD
                              have st8 : Step F7 H6 (fun a => a ∈ D :: l ∨ a ∈ l7 ∨ ofF fo7 a) F7 (upd H6 D (.lst (xs ++ [y]))) (fun a => a ∈ D :: (l ++ l7) ∨ ofF fo8 a) :=
                                ⟨Same.refl F7, fun b o hb => by
                                  rw [upd_ne fun c : b = D => by rw [c, Fd] at hb; cases hb]
                                  exact S7.fh b o hb, fun b o hb hn => ⟨by rw [upd_ne fun c : b = D => hn (.inl (by rw [c]; exact List.mem_cons_self))]; exact hb, rfl⟩, fun b hb => by
                                  by_cases c : b = D
                                  · subst c; rw [upd_same] at hb; cases hb
                                  · rw [upd_ne c] at hb; exact hb, fun a z => .inl (by
                                  rcases z with z | z
                                  · rcases List.mem_cons.mp z with z | z
                                    · exact .inl (by rw [z]; exact List.mem_cons_self)
                                    · rcases List.mem_append.mp z with z | z
                                      · exact .inl (List.mem_cons_of_mem _ z)
                                      · exact .inr (.inl z)
                                  · exact .inr (.inr (w2 a z)))⟩
                              have tot := fr.trans st8
                              have oX7 : ORs K F7 H6 xs acc l := ors_keep S7.fs _ _ _ oX fun a o ha ho => S7.keep a o ho (dj a (List.mem_cons_of_mem _ ha))
                              have nl7 : D ∉ l7 := fun z => djM D List.mem_cons_self (.inl z)
                              refine ⟨F7, fo8, e4, acc ++ [x4], xs ++ [y], l ++ l7, S.trans tot, ?_, upd_same, Fd, ?_, ?_, fun a ha z => ?_, wk2.step tot hfr (.refl _ _), hl⟩
                              · exact w1.kept (Same.refl F7) fun a o ha ho => ⟨by rw [upd_ne fun c : a = D => djM D List.mem_cons_self (.inr (by rw [← c]; exact w2 a ha))]; exact ho, rfl⟩
                              · have one := ORs.cons (or_upd (o := .lst (xs ++ [y])) o7 nl7) (.nil (K := K) (F := F7) (H := upd H6 D (.lst (xs ++ [y]))))
                                rw [List.append_nil] at one
                                exact ors_append (ors_upd oX7 nd'.1) one
                              · refine List.nodup_cons.mpr ⟨fun z => (List.mem_append.mp z).elim nd'.1 nl7, List.nodup_append.mpr ⟨nd'.2, n7, fun a ha b hb z => ?_⟩⟩
                                exact djM a (List.mem_cons_of_mem _ ha) (.inl (by rw [z]; exact hb))
                              · have z := w2 a z
                                rcases List.mem_cons.mp ha with y | y
                                · exact djM D List.mem_cons_self (.inr (by rw [← y]; exact z))
                                · rcases List.mem_append.mp y with y | y
                                  · exact djM a (List.mem_cons_of_mem _ y) (.inr z)
                                  · exact d7 a y z
                            · rw [if_neg hz] at hl; cases hl
end
end PyI

/-! The own syntax keeps its word. -/
namespace PyI
open PySem PySem.Spec PyProof.Rows L2
theorem shape_noBool {sc : Scope} {o : Op} {op : BoolOp} {vs : List Expr} {pos : Pos} : shape sc o (.BoolOp op vs pos) = none := by cases o <;> rfl
theorem notSet_of {e : Expr} (h : notSet e = true) (env : PySem.Env) (x : Value) : foldedSetIterable e env x = pure x := by
  cases e <;> first | rfl | cases h
section
variable {P : List Def} {k : Nat} {N : List Str} {X : Cx} {Γ : Ctx}
theorem ok_comp {sc : Scope} {top : Bool} (c : CxOk P k N sc top X) {elt : E} {t : T} {it : It} {cond : C} {own : List (Str × Nat)} {x tg iter : Expr} {ifs : List Expr} {scope : Scope} {pos : Pos} (hb : blkC N sc scope own = true) (ht : ∀ i ∈ t.asgs, i ∈ own.map (·.2)) (hs : notSet iter = true)
    (hi : PI X tg iter (TIt X.K Γ it)) (hg : ∀ Y : Cx, CxOk P k N (blkScope sc scope) false Y → PG Y tg (TTg Y.K Γ t)) (hc : ∀ Y : Cx, CxOk P k N (blkScope sc scope) false Y → PTs Y ifs (tC Y.K Γ cond)) (he : ∀ Y : Cx, CxOk P k N (blkScope sc scope) false Y → PE Y x (TEv Y.K Γ elt)) :
    EOk X Γ (.ListComp x [⟨tg, iter, ifs, 0⟩] scope pos) (.comp elt t it cond own) := by
  have ok : BlkOk X.N X.env.scope scope own := by rw [c.hN, c.sc]; exact blkOk_by hb
  have pe : PE X (.ListComp x [⟨tg, iter, ifs, 0⟩] scope pos) (TEv X.K Γ (.comp elt t it cond own)) :=
    PE.imp (pe_lc c.calm c.nd hi ok (fun s H C cl fp => hg _ (c.blk s H scope cl C fp)) (fun s H C cl fp => hc _ (c.blk s H scope cl C fp)) (fun s H C cl fp => he _ (c.blk s H scope cl C fp)) (notSet_of hs X.env)) fun σ H Q q => comp_rd ht q
  exact ⟨pe, pt_of pe rfl, fun ⟨_, _, _, e⟩ => nomatch e⟩
end
/-! displays of dicts -/
section
variable {K : PySem.W.Frag} {Γ : Ctx} {σ : L2.St}
def trsOf (K : PySem.W.Frag) (Γ : Ctx) : List Key → Es → List (TE × TE)
  | k :: ks, .cons e es => ((fun _ H Q => Q (kV k) H), TEv K Γ e) :: trsOf K Γ ks es
  | _, _ => []
theorem pairs_of : ∀ (ks : List Key) (es : Es) (H : Hp) (Q : List (V × V) → Hp → Prop), ks.length = es.len → seqT K Γ es σ H (fun vals H2 => Q ((ks.map kV).zip vals) H2) → tPairs (trsOf K Γ ks es) σ H Q
  | [], .nil, H, Q, _, h => h
  | k :: ks, .cons e es, H, Q, hl, h => TEv.mono h fun v H1 h1 => pairs_of ks es H1 _ (Nat.succ.inj hl) (seqT_mono h1 fun vals H2 q => q)
  | [], .cons _ _, _, _, hl, _ => nomatch hl
  | _ :: _, .nil, _, _, hl, _ => nomatch hl
theorem merge_nodup : ∀ (more kvs : List (Key × V)), (kvs.map (·.1) ++ more.map (·.1)).Nodup → mergeK kvs more = kvs ++ more
  | [], kvs, _ => by show kvs = _; rw [List.append_nil]
  | p :: r, kvs, nd => by
    have hn : valV kvs p.1 = none := by
      cases hq : valV kvs p.1 with
      | none => rfl
      | some v =>
        have h1 : (kvs.any fun kv => decide (kv.1 = p.1)) = true := by rw [valV_any, hq]; rfl
        obtain ⟨x, hx, he⟩ := List.any_eq_true.mp h1
        exact ((List.nodup_append.mp nd).2.2 x.1 (List.mem_map.mpr ⟨x, hx, rfl⟩) p.1 (by simp) (of_decide_eq_true he)).elim
    show mergeK (L2.putK kvs p.1 p.2) r = _
    rw [putK_new p.2 hn, merge_nodup r (kvs ++ [(p.1, p.2)]) (by simpa using nd)]
    simp
theorem dct_rd {ks : List Key} {vs : Es} {H : Hp} {Q : VK} (hl : ks.length = vs.len) (nd0 : ks.Nodup) (h15 : ks.length ≤ 15) (h : TEv K Γ (.dct ks vs) σ H Q) : tDisp (trsOf K Γ ks vs) σ H Q := by
  obtain ⟨F, env, fo, r, env', fh, er, e, q⟩ := h
  intro p hp
  unfold ev at e
  cases he : evs Γ vs env with
  | none => rw [he] at e; cases e
  | some z =>
    obtain ⟨rs, env1⟩ := z
    rw [he] at e
    simp only at e
    cases ht : takes rs env1 with
    | none => rw [ht] at e; cases e
    | some z =>
      obtain ⟨ts, env2⟩ := z
      rw [ht] at e
      simp only at e
      split at e
      · rename_i hlen
        cases e
        have np : ∀ b o, H b = some o → b ≠ p := fun b o e z => by rw [z, hp] at e; cases e
        have hs0 : Same H (upd H p (.dK [])) := fun b o e => by rw [upd_ne (np b o e)]; exact e
        have er0 : ER K F (upd H p (.dK [])) σ env fo := er.kept (Same.refl F) fun a o ha ho => ⟨hs0 a o ho, rfl⟩
        have pfo : ¬ ofF fo p := fun z => by
          obtain ⟨⟨o, e⟩, _⟩ := er.there z
          rw [hp] at e; cases e
        refine pairs_of ks vs _ _ hl (evs_seq vs F _ env env1 fo rs _ (fh.trans hs0) er0 he fun vals F2 H2 fo2 l2 p2 => ?_)
        have keep2 := p2.st.keep p _ upd_same pfo
        obtain ⟨F1, fo1, l1, s1, e1, o1, n1, d1, sb, sf, len1⟩ := takes_rep p2.st.fh p2.er p2.rr p2.nd p2.dj ht
        have out2 : ∀ b o, upd H p (.dK []) b = some o → ¬ ofF fo b → ¬ (b ∈ l2 ∨ ofF fo2 b) := fun b o hb hn z => by
          rcases p2.st.own b z with y | y
          · exact hn y
          · rw [hb] at y; cases y
        have pout : ¬ (p ∈ l2 ∨ ofF fo2 p) := out2 p _ upd_same pfo
        have fp : F1 p = none := by rw [(s1.keep p _ keep2.1 pout).2, keep2.2]; exact fh.free hp
        have pl : p ∉ l1 := fun z => pout (.inl (sb p z))
        have pf1 : ¬ ofF fo1 p := fun z => pout (.inr (sf p z))
        have hv : vals.length = ts.length := (ors_length o1)
        refine ⟨keep2.1, ks.zip vals, ?_, by rw [List.length_zip]; omega, ?_⟩
        · have : ∀ (ks : List Key) (us : List V), (ks.map kV).zip us = (ks.zip us).map fun kv => (kV kv.1, kv.2) := by
            intro ks
            induction ks with
            | nil => intro us; rfl
            | cons k ks ih => intro us; cases us with
              | nil => rfl
              | cons u us => rw [List.map_cons, List.zip_cons_cons, List.zip_cons_cons, List.map_cons, ih]
          exact this ks vals
        · have kfst : ((ks.zip vals).map (·.1)) = ks := List.map_fst_zip (by omega)
          rw [merge_nodup (ks.zip vals) [] (by rw [kfst]; simpa using nd0), List.nil_append]
          have hne : ∀ b, H2 b = none → b ≠ p := fun b hb z => by rw [z, keep2.1] at hb; cases hb
          refine q _ F1 _ fo1 (p :: l1) ⟨⟨p2.st.fs.trans s1.fs, fun b o hb => ?_, fun b o hb hn => ?_, fun b hb => ?_, fun b hb => ?_⟩, e1.kept (Same.refl F1) fun a o ha ho => ⟨by rw [upd_ne (fun z : a = p => pf1 (z ▸ ha))]; exact ho, rfl⟩, List.nodup_cons.mpr ⟨pl, n1⟩, fun a ha z => ?_, .own (.nod (g := some ks) upd_same ⟨by omega, nd0⟩ fp (ors_upd o1 pl)), fun z => nomatch z⟩
          · by_cases c : b = p
            · subst c; rw [fp] at hb; cases hb
            · rw [upd_ne c]; exact s1.fh b o hb
          · have hb0 : upd H p (.dK []) b = some o := hs0 b o hb
            have hn' : ¬ ofF fo b := fun z => hn (.inr z)
            have k2 := p2.st.keep b o hb0 hn'
            have k1 := s1.keep b o k2.1 (out2 b o hb0 hn')
            rw [upd_ne (np b o hb)]
            exact ⟨k1.1, k1.2.trans k2.2⟩
          · by_cases c : b = p
            · subst c; exact hp
            · rw [upd_ne c] at hb
              exact hs0.free (p2.st.dom b (s1.dom b hb))
          · have down : (b ∈ l2 ∨ ofF fo2 b) → (b ∈ ([] : List Addr) ∨ ofF fo b) ∨ H b = none := fun z => (p2.st.own b z).imp .inr fun y => hs0.free y
            rcases hb with hb | hb
            · rcases List.mem_cons.mp hb with z | z
              · rw [z]; exact .inr hp
              · exact down (.inl (sb b z))
            · exact down (.inr (sf b hb))
          · rcases List.mem_cons.mp ha with w | w
            · rw [w] at z; exact pf1 z
            · exact d1 a w z
      · cases e
end
theorem pps_of {P : List Def} {k : Nat} {N : List Str} {X : Cx} {pos : Pos} {sc : Scope} {top : Bool} (c : CxOk P k N sc top X) : ∀ {ks : List Key} {vs : Es} {keys : List (Option Expr)} {values : List Expr}, keysB ks keys = true → keys.length = values.length → PEs X (ctxOf P k) vs values → PPs X pos keys values (trsOf X.K (ctxOf P k) ks vs) ∧ keys.all (·.isSome) = true ∧ keys.length = ks.length ∧ ks.length = vs.len
  | [], vs, keys, values, hk, hl, h => by
    unfold keysB at hk
    split at hk
    · cases values with
      | nil => cases h; exact ⟨pps_nil, rfl, rfl, rfl⟩
      | cons _ _ => cases hl
    · rename_i h1; cases h1
    · cases hk
  | k' :: ks, vs, keys, values, hk, hl, h => by
    cases keys with
    | nil => cases hk
    | cons x r =>
      cases values with
      | nil => cases hl
      | cons v values =>
        cases x with
        | none => cases hk
        | some x =>
          cases x with
          | Constant cst j p =>
            unfold keysB at hk
            obtain ⟨k1, k2⟩ := Bool.and_eq_true_iff.mp hk
            cases h with
            | cons h1 h2 h3 =>
              obtain ⟨q1, q2, q3, q4⟩ := pps_of c (pos := pos) k2 (Nat.succ.inj hl) h3
              refine ⟨pps_cons ?_ h1 q1, by rw [List.all_cons, q2]; rfl, by rw [List.length_cons, List.length_cons, q3], by rw [List.length_cons, q4]; rfl⟩
              cases k' with
              | inl i =>
                cases cst with
                | int j' =>
                  have : i = j' := by simpa [keyC] using k1
                  subst this
                  exact pe_int
                | _ => cases k1
              | inr s =>
                cases cst with
                | str s' =>
                  have : s = s' := of_decide_eq_true k1
                  subst this
                  exact pe_str
                | _ => cases k1
          | _ => cases hk
theorem ok_dct {P : List Def} {k : Nat} {N : List Str} {X : Cx} {sc : Scope} {top : Bool} (c : CxOk P k N sc top X) {ks : List Key} {vs : Es} {keys : List (Option Expr)} {values : List Expr} {pos : Pos} (h1 : keysB ks keys = true) (h2 : ks.Nodup) (h3 : keys.length = values.length) (h4 : ks.isEmpty = false) (h5 : keys.length ≤ 15) (h : PEs X (ctxOf P k) vs values) : EOk X (ctxOf P k) (.Dict keys values pos) (.dct ks vs) := by
  obtain ⟨q1, q2, q3, q4⟩ := pps_of c (pos := pos) h1 h3 h
  have ne : keys ≠ [] := fun z => by
    rw [z] at q3
    cases ks with
    | nil => cases h4
    | cons _ _ => cases q3
  have pe : PE X (.Dict keys values pos) (TEv X.K (ctxOf P k) (.dct ks vs)) := PE.imp (pe_disp q1 q2 h3 ne h5) fun σ H Q q => dct_rd q4 h2 (by omega) q
  exact ⟨pe, pt_of pe rfl, fun ⟨_, _, _, e⟩ => nomatch e⟩
mutual
theorem okE {P : List Def} {k : Nat} {N : List Str} : ∀ (a : E) (sc : Scope) (top : Bool) (X : Cx), CxOk P k N sc top X → ∀ e, chkE P N sc a e = true → EOk X (ctxOf P k) e a
  | .var i, sc, top, X, c, e, h => by
    cases e with
    | Name x pos =>
      unfold chkE at h
      simp only [Bool.and_eq_true, decide_eq_true_eq] at h
      have pe := ev_var (Γ := ctxOf P k) (pos := pos) c h.1.1 h.1.2 h.2
      exact ⟨pe, pt_of pe rfl, fun ⟨_, _, _, e⟩ => nomatch e⟩
    | _ => unfold chkE at h; cases h
  | .c d, sc, top, X, c, e, h => by
    cases e with
    | Constant cst j pos =>
      unfold chkE at h
      have pe := ev_c (X := X) (Γ := ctxOf P k) (j := j) (pos := pos) h
      exact ⟨pe, pt_of pe rfl, fun ⟨_, _, _, e⟩ => nomatch e⟩
    | Name x pos =>
      unfold chkE at h
      simp only [Bool.and_eq_true] at h
      have pe := ev_g (Γ := ctxOf P k) (pos := pos) c h.1.1 h.1.2 h.2
      exact ⟨pe, pt_of pe rfl, fun ⟨_, _, _, e⟩ => nomatch e⟩
    | _ => unfold chkE at h; cases h
  | .op o as, sc, top, X, c, e, h => by
    unfold chkE at h
    cases hs : shape sc o e with
    | none => rw [hs] at h; cases h
    | some es =>
      rw [hs] at h
      obtain ⟨h1, h2⟩ := ev_op (Γ := ctxOf P k) c hs (okEs as sc top X c es h)
      exact ⟨h1, h2, fun ⟨_, _, _, z⟩ => by rw [z, shape_noBool] at hs; cases hs⟩
  | .and a b, sc, top, X, c, e, h => by
    unfold chkE at h
    split at h <;> first | contradiction | skip
    · rename_i x y pos heq
      cases heq
      obtain ⟨h1, h2⟩ := Bool.and_eq_true_iff.mp h
      exact ok_and2 (okE a sc top X c x h1) (okE b sc top X c y h2)
    · rename_i x y z r pos heq
      cases heq
      obtain ⟨h1, h2⟩ := Bool.and_eq_true_iff.mp h
      exact ok_andN (okE a sc top X c x h1) (okE b sc top X c _ h2)
  | .or a b, sc, top, X, c, e, h => by
    unfold chkE at h
    split at h <;> first | contradiction | skip
    · rename_i x y pos heq
      cases heq
      obtain ⟨h1, h2⟩ := Bool.and_eq_true_iff.mp h
      exact ok_or2 (okE a sc top X c x h1) (okE b sc top X c y h2)
    · rename_i x y z r pos heq
      cases heq
      obtain ⟨h1, h2⟩ := Bool.and_eq_true_iff.mp h
      exact ok_orN (okE a sc top X c x h1) (okE b sc top X c _ h2)
  | .not a, sc, top, X, c, e, h => by
    unfold chkE at h
    split at h <;> first | contradiction | skip
    rename_i heq
    cases heq
    exact ok_not (okE a sc top X c _ h)
  | .ite p a b, sc, top, X, c, e, h => by
    unfold chkE at h
    split at h <;> first | contradiction | skip
    rename_i heq
    cases heq
    obtain ⟨h, h3⟩ := Bool.and_eq_true_iff.mp h
    obtain ⟨h1, h2⟩ := Bool.and_eq_true_iff.mp h
    exact ok_ite (okE p sc top X c _ h1) (okE a sc top X c _ h2) (okE b sc top X c _ h3)
  | .chain o p a b d, sc, top, X, c, e, h => by
    unfold chkE at h
    split at h <;> first | contradiction | skip
    rename_i heq
    cases heq
    simp only [Bool.and_eq_true, decide_eq_true_eq] at h
    obtain ⟨⟨⟨⟨h1, h2⟩, h3⟩, h4⟩, h5⟩ := h
    exact ok_chain c h1 h2 (okE a sc top X c _ h3).pe (okE b sc top X c _ h4).pe (okE d sc top X c _ h5).pe
  | .sl a lo hi, sc, top, X, c, e, h => by
    unfold chkE at h
    split at h <;> first | contradiction | skip
    rename_i heq
    cases heq
    simp only [Bool.and_eq_true] at h
    obtain ⟨⟨h1, h2⟩, h3⟩ := h
    exact ok_sl (okE a sc top X c _ h1).pe (okO lo sc top X c _ h2) (okO hi sc top X c _ h3)
  | .meth m o as, sc, top, X, c, e, h => by
    unfold chkE at h
    split at h <;> first | contradiction | skip
    rename_i x name apos args cpos heq
    cases heq
    simp only [Bool.and_eq_true, decide_eq_true_eq] at h
    obtain ⟨⟨⟨⟨⟨h1, h2⟩, h4⟩, h5⟩, h6⟩, h7⟩ := h
    subst h1
    exact ok_meth h4 h5 h2 (okE o sc top X c x h6).pe (okEs as sc top X c args h7)
  | .call f as kw perm, sc, top, X, c, e, h => by
    unfold chkE at h
    split at h <;> first | contradiction | skip
    rename_i x p args kws pos heq
    cases heq
    cases h1 : P[f]? with
    | none => rw [h1] at h; cases h
    | some d =>
      cases h2 : kwNames kws with
      | none => rw [h1, h2] at h; cases h
      | some ks =>
        rw [h1, h2] at h
        simp only [Bool.and_eq_true, decide_eq_true_eq] at h
        obtain ⟨⟨⟨⟨⟨⟨⟨g1, g0⟩, g2⟩, g3⟩, g4⟩, g5⟩, g6⟩, g7⟩ := h
        exact ok_call c h1 (Option.isNone_iff_eq_none.mp g0) h2 g1 g2 g3 g4 g5 (okEs as sc top X c args g6) (okK kw sc top X c kws g7)
  | .comp elt t it cond own, sc, top, X, c, e, h => by
    unfold chkE at h
    split at h <;> first | contradiction | skip
    rename_i x tg iter ifs scope pos heq
    cases heq
    simp only [Bool.and_eq_true, List.all_eq_true] at h
    obtain ⟨⟨⟨⟨⟨⟨h1, h2⟩, h3⟩, h4⟩, h5⟩, h6⟩, h7⟩ := h
    exact ok_comp c h1 (fun i hi => by simpa using h2 i hi) h4 (okIt it sc top X c iter tg h3) (fun Y cy => okT t _ false Y cy tg h5) (fun Y cy => okC cond _ false Y cy ifs h6) fun Y cy => (okE elt _ false Y cy x h7).pe
  | .dct ks vs, sc, top, X, c, e, h => by
    cases e with
    | Dict keys values pos =>
      unfold chkE at h
      simp only [Bool.and_eq_true, decide_eq_true_eq, Bool.not_eq_true'] at h
      obtain ⟨⟨⟨⟨⟨h1, h2⟩, h3⟩, h4⟩, h5⟩, h6⟩ := h
      exact ok_dct c h1 h2 h3 h4 h5 (okEs vs sc top X c values h6)
    | _ => unfold chkE at h; cases h
theorem okEs {P : List Def} {k : Nat} {N : List Str} : ∀ (as : Es) (sc : Scope) (top : Bool) (X : Cx), CxOk P k N sc top X → ∀ es, chkEs P N sc as es = true → PEs X (ctxOf P k) as es
  | .nil, sc, top, X, c, es, h => by
    cases es with
    | nil => exact .nil
    | cons _ _ => unfold chkEs at h; cases h
  | .cons a as, sc, top, X, c, es, h => by
    cases es with
    | nil => unfold chkEs at h; cases h
    | cons x xs =>
      unfold chkEs at h
      obtain ⟨h, h3⟩ := Bool.and_eq_true_iff.mp h
      obtain ⟨h1, h2⟩ := Bool.and_eq_true_iff.mp h
      exact .cons (okE a sc top X c x h1).pe h2 (okEs as sc top X c xs h3)
theorem okK {P : List Def} {k : Nat} {N : List Str} : ∀ (as : Es) (sc : Scope) (top : Bool) (X : Cx), CxOk P k N sc top X → ∀ es, chkK P N sc as es = true → PKs X (ctxOf P k) as es
  | .nil, sc, top, X, c, es, h => by
    cases es with
    | nil => exact .nil
    | cons _ _ => unfold chkK at h; cases h
  | .cons a as, sc, top, X, c, es, h => by
    cases es with
    | nil => unfold chkK at h; cases h
    | cons x xs =>
      obtain ⟨n, x, p⟩ := x
      unfold chkK at h
      obtain ⟨h1, h2⟩ := Bool.and_eq_true_iff.mp h
      exact .cons (okE a sc top X c x h1).pe (okK as sc top X c xs h2)
theorem okC {P : List Def} {k : Nat} {N : List Str} : ∀ (a : C) (sc : Scope) (top : Bool) (X : Cx), CxOk P k N sc top X → ∀ es, chkC P N sc a es = true → PTs X es (tC X.K (ctxOf P k) a)
  | .non, sc, top, X, c, es, h => by
    cases es with
    | nil => exact pts_nil
    | cons _ _ => unfold chkC at h; cases h
  | .some a, sc, top, X, c, es, h => by
    unfold chkC at h
    split at h <;> first | contradiction | skip
    rename_i heq
    cases heq
    exact pts_one (okE a sc top X c _ h).pt
theorem okO {P : List Def} {k : Nat} {N : List Str} : ∀ (a : C) (sc : Scope) (top : Bool) (X : Cx), CxOk P k N sc top X → ∀ e, chkO P N sc a e = true → POk X (ctxOf P k) e a
  | .non, sc, top, X, c, e, h => by
    cases e with
    | none => exact po_none
    | some _ => unfold chkO at h; cases h
  | .some a, sc, top, X, c, e, h => by
    cases e with
    | none => unfold chkO at h; cases h
    | some x =>
      unfold chkO at h
      exact po_some (okE a sc top X c x h).pe
theorem okT {P : List Def} {k : Nat} {N : List Str} : ∀ (a : T) (sc : Scope) (top : Bool) (X : Cx), CxOk P k N sc top X → ∀ e, chkT P N sc top a e = true → PG X e (TTg X.K (ctxOf P k) a)
  | .nm i, sc, top, X, c, e, h => by
    cases e with
    | Name x pos =>
      unfold chkT at h
      simp only [Bool.and_eq_true, decide_eq_true_eq] at h
      exact ok_name c h.1 h.2
    | _ => unfold chkT at h; cases h
  | .tup ts, sc, top, X, c, e, h => by
    cases e with
    | Tuple es j pos =>
      unfold chkT at h
      exact ok_tup c (okTs ts sc top X c es h)
    | _ => unfold chkT at h; cases h
  | .sub o i, sc, top, X, c, e, h => by
    cases e with
    | Subscript x y pos =>
      unfold chkT at h
      obtain ⟨h, h3⟩ := Bool.and_eq_true_iff.mp h
      obtain ⟨h1, h2⟩ := Bool.and_eq_true_iff.mp h
      exact ok_sub (by have := c.room.un; omega) h1 (okE o sc top X c x h2).pe (okE i sc top X c y h3).pe
    | _ => unfold chkT at h; cases h
theorem okTs {P : List Def} {k : Nat} {N : List Str} : ∀ (as : Ts) (sc : Scope) (top : Bool) (X : Cx), CxOk P k N sc top X → ∀ es, chkTs P N sc top as es = true → GOks X (ctxOf P k) as es
  | .nil, sc, top, X, c, es, h => by
    cases es with
    | nil => exact .nil
    | cons _ _ => unfold chkTs at h; cases h
  | .cons a as, sc, top, X, c, es, h => by
    cases es with
    | nil => unfold chkTs at h; cases h
    | cons x xs =>
      unfold chkTs at h
      obtain ⟨h, h3⟩ := Bool.and_eq_true_iff.mp h
      obtain ⟨h1, h2⟩ := Bool.and_eq_true_iff.mp h
      exact .cons (okT a sc top X c x h1) h2 (okTs as sc top X c xs h3)
theorem okIt {P : List Def} {k : Nat} {N : List Str} : ∀ (a : It) (sc : Scope) (top : Bool) (X : Cx), CxOk P k N sc top X → ∀ e tg, chkIt P N sc a e tg = true → PI X tg e (TIt X.K (ctxOf P k) a)
  | .seq a, sc, top, X, c, e, tg, h => by
    unfold chkIt at h
    exact ok_seq (okE a sc top X c e h).pe
  | .range as, sc, top, X, c, e, tg, h => by
    unfold chkIt at h
    split at h <;> first | contradiction | skip
    rename_i y p args pos heq
    cases heq
    simp only [Bool.and_eq_true, Bool.or_eq_true, decide_eq_true_eq] at h
    obtain ⟨⟨⟨h1, h2⟩, h3⟩, h4⟩ := h
    subst h1
    exact ok_range c h2 h3 (okEs as sc top X c args h4)
  | .enum a, sc, top, X, c, e, tg, h => by
    unfold chkIt at h
    split at h <;> first | contradiction | skip
    rename_i heq
    cases heq
    simp only [Bool.and_eq_true, decide_eq_true_eq] at h
    obtain ⟨⟨⟨h1, h2⟩, h3⟩, h4⟩ := h
    subst h1
    exact ok_enum c h2 (okE a sc top X c _ h4).pe h3
  | .zip a b, sc, top, X, c, e, tg, h => by
    unfold chkIt at h
    split at h <;> first | contradiction | skip
    rename_i heq
    cases heq
    simp only [Bool.and_eq_true, decide_eq_true_eq] at h
    obtain ⟨⟨⟨⟨⟨h1, h2⟩, h3⟩, h4⟩, h5⟩, h6⟩ := h
    subst h1
    exact ok_zip c h2 (okE a sc top X c _ h5).pe (okE b sc top X c _ h6).pe h3 h4
end
end PyI

/-! Statements: their readings. -/
namespace PyI
open PySem PySem.Spec PyProof.Rows L2
section
variable {K : PySem.W.Frag} {σ : L2.St} {Γ : Ctx} {F H : Hp} {env : Env} {fo : Nat → List Addr}
/-- what is wanted behind an outcome -/
def After (K : PySem.W.Frag) (σ : L2.St) (F H : Hp) (fo : Nat → List Addr) (l : List Nat) (env' : Env) (D : Ends) : Out → Prop
  | .nx => ∀ σ' F' H' fo', Step F H (ofF fo) F' H' (ofF fo') → ER K F' H' σ' env' fo' → Ag l σ σ' → D.nx σ' H'
  | .bk => ∀ σ' F' H' fo', Step F H (ofF fo) F' H' (ofF fo') → ER K F' H' σ' env' fo' → Ag l σ σ' → D.bk σ' H'
  | .ct => ∀ σ' F' H' fo', Step F H (ofF fo) F' H' (ofF fo') → ER K F' H' σ' env' fo' → Ag l σ σ' → D.ct σ' H'
  | .ret t => ∀ v σ' F' H' fo' m, Step F H (ofF fo) F' H' (fun a => a ∈ m ∨ ofF fo' a) → ER K F' H' σ' env' fo' → OR K F' H' v t m → m.Nodup → (∀ a ∈ m, ¬ ofF fo' a) → Ag l σ σ' → D.rt v H'
theorem After.trans {F1 H1 : Hp} {fo1 : Nat → List Addr} {σ1 : L2.St} {l m : List Nat} {env' : Env} {D : Ends} {o : Out} (h : After K σ F H fo l env' D o) (s : Step F H (ofF fo) F1 H1 (ofF fo1)) (ag : Ag l σ σ1) (sub : ∀ i ∈ m, i ∈ l) : After K σ1 F1 H1 fo1 m env' D o := by
  cases o with
  | nx => exact fun σ' F' H' fo' s' er ag' => h σ' F' H' fo' (s.trans s') er (ag.trans (ag'.mono sub))
  | bk => exact fun σ' F' H' fo' s' er ag' => h σ' F' H' fo' (s.trans s') er (ag.trans (ag'.mono sub))
  | ct => exact fun σ' F' H' fo' s' er ag' => h σ' F' H' fo' (s.trans s') er (ag.trans (ag'.mono sub))
  | ret t => exact fun v σ' F' H' fo' n s' er ov nd dj ag' => h v σ' F' H' fo' n (s.trans s') er ov nd dj (ag.trans (ag'.mono sub))
/-- a statement's reading -/
def TSx (K : PySem.W.Frag) (Γ : Ctx) (s : S) : TS := fun D σ H => ∃ F env fo o env', Same F H ∧ ER K F H σ env fo ∧ exec Γ s env = some (o, env') ∧ After K σ F H fo s.asgs env' D o
def TSs (K : PySem.W.Frag) (Γ : Ctx) (s : Ss) : TS := fun D σ H => ∃ F env fo o env', Same F H ∧ ER K F H σ env fo ∧ execs Γ s env = some (o, env') ∧ After K σ F H fo s.asgs env' D o
theorem ss_nil {D : Ends} (h : TSs K Γ .nil D σ H) : D.nx σ H := by
  obtain ⟨F, env, fo, o, env', fh, er, e, q⟩ := h
  unfold execs at e
  cases e
  exact q σ F H fo (.refl fh fun _ z => z) er (.refl _ _)
theorem ss_cons {s : S} {ss : Ss} {D : Ends} (h : TSs K Γ (.cons s ss) D σ H) : tSeq (TSx K Γ s) (TSs K Γ ss) D σ H := by
  obtain ⟨F, env, fo, o, env', fh, er, e, q⟩ := h
  unfold execs at e
  cases h1 : exec Γ s env with
  | none => rw [h1] at e; cases e
  | some z =>
    obtain ⟨o1, e1⟩ := z
    rw [h1] at e
    refine ⟨F, env, fo, o1, e1, fh, er, h1, ?_⟩
    have m1 : ∀ i ∈ s.asgs, i ∈ s.asgs ++ ss.asgs := fun i hi => List.mem_append_left _ hi
    have m2 : ∀ i ∈ ss.asgs, i ∈ s.asgs ++ ss.asgs := fun i hi => List.mem_append_right _ hi
    cases o1 with
    | nx => exact fun σ1 F1 H1 fo1 s1 er1 ag1 => ⟨F1, e1, fo1, o, env', s1.fh, er1, e, q.trans s1 (ag1.mono m1) m2⟩
    | bk => cases e; exact fun σ1 F1 H1 fo1 s1 er1 ag1 => q σ1 F1 H1 fo1 s1 er1 (ag1.mono m1)
    | ct => cases e; exact fun σ1 F1 H1 fo1 s1 er1 ag1 => q σ1 F1 H1 fo1 s1 er1 (ag1.mono m1)
    | ret t => cases e; exact fun v σ1 F1 H1 fo1 m s1 er1 ov nd dj ag1 => q v σ1 F1 H1 fo1 m s1 er1 ov nd dj (ag1.mono m1)
/-- a value stored -/
theorem store_rd {s : S} {e : E} {t : T} {D : Ends} (ha : t.asgs = s.asgs) (hx : ∀ env o env', exec Γ s env = some (o, env') → o = .nx ∧ ∃ r e1 x e2, ev Γ e env = some (r, e1) ∧ r.take e1 = some (x, e2) ∧ setT Γ t x e2 = some env') (h : TSx K Γ s D σ H) : tAsg (TEv K Γ e) (TTg K Γ t) D σ H := by
  obtain ⟨F, env, fo, o, env', fh, er, ee, q⟩ := h
  obtain ⟨rfl, r, e1, x, e2, h1, h2, h3⟩ := hx env o env' ee
  refine ⟨F, env, fo, r, e1, fh, er, h1, fun v F1 H1 fo1 l1 p => ?_⟩
  obtain ⟨F2, fo2, l2, s2, er2, o2, n2, d2, i2, sb2, len2⟩ := take_rep p.st.fh p.er p.rr p.nd p.dj h2
  refine ⟨F2, e2, fo2, x, l2, env', s2.fh, er2, o2, n2, d2, h3, fun σ' F' H' fo' s' er' ag => q σ' F' H' fo' (p.out.trans (s2.trans s')) er' (ha ▸ ag)⟩
theorem asg_ex {i : Nat} {e : E} {env env' : Env} {o : Out} (h : exec Γ (.asg i e) env = some (o, env')) : o = .nx ∧ ∃ r e1 x e2, ev Γ e env = some (r, e1) ∧ r.take e1 = some (x, e2) ∧ setT Γ (.nm i) x e2 = some env' := by
  unfold exec at h
  cases h1 : ev Γ e env with
  | none => rw [h1] at h; cases h
  | some z =>
    obtain ⟨r, e1⟩ := z
    rw [h1] at h
    simp only at h
    cases h2 : r.take e1 with
    | none => rw [h2] at h; cases h
    | some z =>
      obtain ⟨x, e2⟩ := z
      rw [h2] at h
      simp only at h
      by_cases c : i < e2.length
      · rw [if_pos c] at h
        cases h
        exact ⟨rfl, r, e1, x, e2, rfl, h2, by unfold setT; rw [if_pos c]⟩
      · rw [if_neg c] at h; cases h
theorem unp_ex {t : Ts} {e : E} {env env' : Env} {o : Out} (h : exec Γ (.unp t e) env = some (o, env')) : o = .nx ∧ ∃ r e1 x e2, ev Γ e env = some (r, e1) ∧ r.take e1 = some (x, e2) ∧ setT Γ (.tup t) x e2 = some env' := by
  unfold exec at h
  cases h1 : ev Γ e env with
  | none => rw [h1] at h; cases h
  | some z =>
    obtain ⟨r, e1⟩ := z
    rw [h1] at h
    simp only at h
    cases h2 : r.take e1 with
    | none => rw [h2] at h; cases h
    | some z =>
      obtain ⟨x, e2⟩ := z
      rw [h2] at h
      simp only at h
      obtain ⟨e3, g1, g2⟩ := Option.map_eq_some_iff.mp h
      cases g2
      exact ⟨rfl, r, e1, x, e2, rfl, h2, g1⟩
theorem put_ex {a i e : E} {env env' : Env} {o : Out} (h : exec Γ (.put a i e) env = some (o, env')) : o = .nx ∧ ∃ r e1 x e2, ev Γ e env = some (r, e1) ∧ r.take e1 = some (x, e2) ∧ setT Γ (.sub a i) x e2 = some env' := by
  unfold exec at h
  cases h1 : ev Γ e env with
  | none => rw [h1] at h; cases h
  | some z =>
    obtain ⟨r, e1⟩ := z
    rw [h1] at h
    simp only at h
    cases h2 : r.take e1 with
    | none => rw [h2] at h; cases h
    | some z =>
      obtain ⟨x, e2⟩ := z
      rw [h2] at h
      simp only at h
      obtain ⟨e3, g1, g2⟩ := Option.map_eq_some_iff.mp h
      cases g2
      exact ⟨rfl, r, e1, x, e2, rfl, h2, g1⟩
/-- a, b = x, y: the values, then the names -/
theorem par_rd {ts : Ts} {es : Es} {D : Ends} (h : TSx K Γ (.par ts es) D σ H) : seqT K Γ es σ H fun vs H1 => vs.length = ts.len ∧ TTgs K Γ ts vs σ H1 D.nx := by
  obtain ⟨F, env, fo, o, env', fh, er, e, q⟩ := h
  unfold exec at e
  cases h1 : evs Γ es env with
  | none => rw [h1] at e; cases e
  | some z =>
    obtain ⟨rs, e1⟩ := z
    rw [h1] at e
    simp only at e
    cases h2 : takes rs e1 with
    | none => rw [h2] at e; cases e
    | some z =>
      obtain ⟨xs, e2⟩ := z
      rw [h2] at e
      simp only at e
      obtain ⟨e3, g1, g2⟩ := Option.map_eq_some_iff.mp e
      cases g2
      refine evs_seq es F H env e1 fo rs _ fh er h1 fun vs F1 H1 fo1 l1 p => ?_
      obtain ⟨F2, fo2, l2, s2, er2, o2, n2, d2, i2, sb2, len2⟩ := takes_rep p.st.fh p.er p.rr p.nd p.dj h2
      exact ⟨(ors_length o2).trans (setTs_len g1), F2, e2, fo2, xs, l2, env', s2.fh, er2, o2, n2, d2, g1, fun σ' F' H' fo' s' er' ag => q σ' F' H' fo' (p.st.trans (s2.trans s')) er' ag⟩
/-- .. through a new tuple -/
theorem par_tup {ts : Ts} {es : Es} {D : Ends} (hz : es.len ≤ 1000) (h : TSx K Γ (.par ts es) D σ H) : tAsg (tTup fun σ H Q => seqT K Γ es σ H Q) (gTup K ts.len (TTgs K Γ ts)) D σ H := by
  refine seqT_mono (seqT_len (par_rd h)) fun vs H1 ⟨lv, hl, F, env, fo, xs, l, env', fh, er, ov, nd, dj, e, q⟩ => ?_
  refine ⟨by rw [lv]; exact Nat.le_trans hz (by decide), fun p hp => ⟨p, vs, rfl, SqT.of upd_same, hl, ?_⟩⟩
  have ne : ∀ b o, H1 b = some o → b ≠ p := fun b o hb z => by rw [z, hp] at hb; cases hb
  have st : Step F H1 (fun a => a ∈ l ∨ ofF fo a) F (upd H1 p (.tup vs)) (fun a => a ∈ l ∨ ofF fo a) := ⟨Same.refl F, fun b o hb => by rw [upd_ne (ne b o (fh b o hb))]; exact fh b o hb, fun b o hb _ => ⟨by rw [upd_ne (ne b o hb)]; exact hb, rfl⟩, fun b hb => by
    by_cases c : b = p
    · rw [c]; exact hp
    · rw [upd_ne c] at hb; exact hb, fun a z => .inl z⟩
  refine ⟨F, env, fo, xs, l, env', st.fh, er.kept (Same.refl F) fun a o ha ho => ⟨by rw [upd_ne (ne a o ho)]; exact ho, rfl⟩, ors_keep (Same.refl F) _ _ _ ov fun a o ha ho => ⟨by rw [upd_ne (ne a o ho)]; exact ho, rfl⟩, nd, dj, e, fun σ' F' H' fo' s' er' ag => q σ' F' H' fo' (st.trans s') er' ag⟩
theorem ex_rd {e : E} {D : Ends} (h : TSx K Γ (.ex e) D σ H) : tDrop (TEv K Γ e) D σ H := by
  obtain ⟨F, env, fo, o, env', fh, er, ee, q⟩ := h
  unfold exec at ee
  obtain ⟨⟨r, e1⟩, g1, g2⟩ := Option.map_eq_some_iff.mp ee
  cases g2
  exact ⟨F, env, fo, r, _, fh, er, g1, fun v F1 H1 fo1 l1 p => q σ F1 H1 fo1 p.step p.er (.refl _ _)⟩
theorem ret_rd {e : E} {D : Ends} (h : TSx K Γ (.ret e) D σ H) : tRet (TEv K Γ e) D σ H := by
  obtain ⟨F, env, fo, o, env', fh, er, ee, q⟩ := h
  unfold exec at ee
  cases h1 : ev Γ e env with
  | none => rw [h1] at ee; cases ee
  | some z =>
    obtain ⟨r, e1⟩ := z
    rw [h1] at ee
    refine ⟨F, env, fo, r, e1, fh, er, h1, fun v F1 H1 fo1 l1 p => ?_⟩
    have rr := p.rr
    cases r with
    | own t =>
      cases ee
      cases rr with | own ov => exact q v σ F1 H1 fo1 l1 p.out p.er ov p.nd p.dj (.refl _ _)
    | al i pth =>
      cases pth with
      | cons _ _ => cases ee
      | nil =>
        simp only at ee
        cases hq : e1[i]? with
        | none => rw [hq] at ee; cases ee
        | some o1 =>
          rw [hq] at ee
          cases o1 with
          | none => cases ee
          | some t =>
            cases ee
            cases rr with
            | al w =>
              obtain ⟨v0, hv, hw⟩ := w
              have hw : v0 = v := hw
              subst hw
              obtain ⟨v1, g1, g2⟩ := p.er.rep i t hq
              rw [hv] at g1; cases g1
              refine q v0 σ F1 H1 (foSet fo1 i []) (fo1 i) (p.step.weak fun a z => ?_) (p.er.forget i) g2 (p.er.nd i) (fun a ha z => (ofF_forget p.er z).2 ha) (.refl _ _)
              rcases z with z | z
              · exact ⟨i, z⟩
              · exact (ofF_forget p.er z).1
theorem retN_rd {D : Ends} (h : TSx K Γ .retN D σ H) : tRetN D σ H := by
  obtain ⟨F, env, fo, o, env', fh, er, ee, q⟩ := h
  unfold exec at ee
  cases ee
  exact q .non σ F H fo [] (.refl fh fun a z => z.elim (fun y => nomatch y) id) er (.leaf .non) List.nodup_nil (fun _ z => nomatch z) (.refl _ _)
theorem if_rd {c : E} {a b : Ss} {D : Ends} (h : TSx K Γ (.ife c a b) D σ H) : tIfS (TTv K Γ c) (TSs K Γ a) (TSs K Γ b) D σ H := by
  obtain ⟨F, env, fo, o, env', fh, er, ee, q⟩ := h
  unfold exec at ee
  cases h1 : boolOf (ev Γ c env) with
  | none => rw [h1] at ee; cases ee
  | some z =>
    obtain ⟨k, e1⟩ := z
    rw [h1] at ee
    refine ⟨F, env, fo, k, e1, fh, er, h1, fun F1 H1 fo1 s1 er1 => ?_⟩
    cases k with
    | true =>
      rw [if_pos rfl]
      exact ⟨F1, e1, fo1, o, env', s1.fh, er1, ee, q.trans s1 (.refl _ _) fun i hi => List.mem_append_left _ hi⟩
    | false =>
      rw [if_neg Bool.false_ne_true]
      exact ⟨F1, e1, fo1, o, env', s1.fh, er1, ee, q.trans s1 (.refl _ _) fun i hi => List.mem_append_right _ hi⟩
theorem brk_rd {D : Ends} (h : TSx K Γ .brk D σ H) : tBreak D σ H := by
  obtain ⟨F, env, fo, o, env', fh, er, ee, q⟩ := h
  unfold exec at ee
  cases ee
  exact q σ F H fo (.refl fh fun _ z => z) er (.refl _ _)
theorem cont_rd {D : Ends} (h : TSx K Γ .cont D σ H) : tCont D σ H := by
  obtain ⟨F, env, fo, o, env', fh, er, ee, q⟩ := h
  unfold exec at ee
  cases ee
  exact q σ F H fo (.refl fh fun _ z => z) er (.refl _ _)
theorem pass_rd {D : Ends} (h : TSx K Γ .pass D σ H) : tNext D σ H := by
  obtain ⟨F, env, fo, o, env', fh, er, ee, q⟩ := h
  unfold exec at ee
  cases ee
  exact q σ F H fo (.refl fh fun _ z => z) er (.refl _ _)
/-- while: the steps left are the measure -/
theorem whl_rd {c : E} {b : Ss} {D : Ends} (h : TSx K Γ (.whl c b) D σ H) : tWhile (TTv K Γ c) (TSs K Γ b) D σ H := by
  obtain ⟨F, env, fo, o, env', fh, er, ee, q⟩ := h
  unfold exec at ee
  generalize whileFuel = n at ee
  refine ⟨fun m σ2 H2 => ∃ F2 e2 fo2, Step F H (ofF fo) F2 H2 (ofF fo2) ∧ ER K F2 H2 σ2 e2 fo2 ∧ Ag b.asgs σ σ2 ∧ whileLoop (fun e => boolOf (ev Γ c e)) (fun e => execs Γ b e) m e2 = some (o, env'), ⟨n, F, env, fo, .refl fh fun _ z => z, er, .refl _ _, ee⟩, ?_⟩
  rintro m σ2 H2 ⟨F2, e2, fo2, S, er2, ag2, hl⟩
  cases m with
  | zero => unfold whileLoop at hl; cases hl
  | succ m =>
    unfold whileLoop at hl
    simp only at hl
    cases h1 : boolOf (ev Γ c e2) with
    | none => rw [h1] at hl; cases hl
    | some z =>
      obtain ⟨k, e3⟩ := z
      rw [h1] at hl
      refine ⟨F2, e2, fo2, k, e3, S.fh, er2, h1, fun F3 H3 fo3 s3 er3 => ?_⟩
      cases k with
      | false =>
        cases hl
        rw [if_neg Bool.false_ne_true]
        exact q σ2 F3 H3 fo3 (S.trans s3) er3 ag2
      | true =>
        rw [if_pos rfl]
        simp only at hl
        refine ⟨fun σ' H' => ∃ F2 e2 fo2, Step F H (ofF fo) F2 H' (ofF fo2) ∧ ER K F2 H' σ' e2 fo2 ∧ Ag b.asgs σ σ' ∧ whileLoop (fun e => boolOf (ev Γ c e)) (fun e => execs Γ b e) m e2 = some (o, env'), fun σ' H' h => ⟨m, Nat.lt_succ_self _, h⟩, ?_⟩
        cases h2 : execs Γ b e3 with
        | none => rw [h2] at hl; cases hl
        | some z =>
          obtain ⟨o4, e4⟩ := z
          rw [h2] at hl
          refine ⟨F3, e3, fo3, o4, e4, s3.fh, er3, h2, ?_⟩
          have S3 := S.trans s3
          cases o4 with
          | nx => exact fun σ' F' H' fo' s' er' ag' => ⟨F', e4, fo', S3.trans s', er', ag2.trans ag', hl⟩
          | ct => exact fun σ' F' H' fo' s' er' ag' => ⟨F', e4, fo', S3.trans s', er', ag2.trans ag', hl⟩
          | bk =>
            cases hl
            exact fun σ' F' H' fo' s' er' ag' => q σ' F' H' fo' (S3.trans s') er' (ag2.trans ag')
          | ret t =>
            cases hl
            exact fun v σ' F' H' fo' m s' er' ov nd dj ag' => q v σ' F' H' fo' m (S3.trans s') er' ov nd dj (ag2.trans ag')
/-- for -/
def forStep (Γ : Ctx) (t : T) (b : Ss) : D → Env → Option (Out × Env) := fun d e => match setT Γ t (.leaf d) e with
  | some e2 => execs Γ b e2
  | none => none
theorem for_rd {t : T} {it : It} {b : Ss} {D : Ends} (h : TSx K Γ (.loop t it b) D σ H) : tFor (TIt K Γ it) (TTg K Γ t) (TSs K Γ b) D σ H := by
  obtain ⟨F, env, fo, o, env', fh, er, ee, q⟩ := h
  unfold exec at ee
  cases h1 : evIt Γ it env with
  | none => rw [h1] at ee; cases ee
  | some z =>
    obtain ⟨src, n, e1⟩ := z
    rw [h1] at ee
    simp only at ee
    cases hfr : src.free (t.asgs ++ b.asgs) with
    | false => rw [hfr] at ee; cases ee
    | true =>
      rw [hfr] at ee
      simp only [Bool.not_true, Bool.false_eq_true, if_false] at ee
      replace ee : forLoop src.get (forStep Γ t b) n 0 e1 = some (o, env') := ee
      refine ⟨F, env, fo, src, n, e1, fh, er, h1, fun J F1 H1 fo1 s1 er1 wk => ?_⟩
      refine ⟨fun i m σ2 H2 => ∃ F2 e2 fo2, Step F H (ofF fo) F2 H2 (ofF fo2) ∧ ER K F2 H2 σ2 e2 fo2 ∧ Ag (t.asgs ++ b.asgs) σ σ2 ∧ Wk K σ2 F2 H2 (ofF fo2) J src ∧ forLoop src.get (forStep Γ t b) m i e2 = some (o, env'), ⟨n, F1, e1, fo1, s1, er1, .refl _ _, wk, ee⟩, ?_⟩
      rintro i m σ2 H2 ⟨F2, e2, fo2, S, er2, ag2, wk2, hl⟩
      cases hg : src.get i e2 with
      | none => unfold forLoop at hl; rw [hg] at hl; cases hl
      | some od =>
        cases od with
        | none =>
          have hl' : some (Out.nx, e2) = some (o, env') := by
            rw [← hl]
            unfold forLoop
            rw [hg]
          cases hl'
          exact .inl ⟨wk2.stop S.fh er2 hg, q σ2 F2 H2 fo2 S er2 ag2⟩
        | some d =>
          unfold forLoop at hl
          rw [hg] at hl
          simp only at hl
          cases m with
          | zero => cases hl
          | succ m =>
            simp only at hl
            cases hs : forStep Γ t b d e2 with
            | none => rw [hs] at hl; cases hl
            | some z =>
              obtain ⟨o5, e5⟩ := z
              rw [hs] at hl
              obtain ⟨g1, g2⟩ := wk2.go S.fh er2 hg
              refine .inr ⟨g1, fun σ' H' => ∃ F2 e2 fo2, Step F H (ofF fo) F2 H' (ofF fo2) ∧ ER K F2 H' σ' e2 fo2 ∧ Ag (t.asgs ++ b.asgs) σ σ' ∧ Wk K σ' F2 H' (ofF fo2) J src ∧ forLoop src.get (forStep Γ t b) m (i + 1) e2 = some (o, env'), fun σ' H' h => ⟨m, Nat.lt_succ_self _, h⟩, fun x H3 hy => ?_⟩
              obtain ⟨F3, s3, dx⟩ := g2 x H3 hy
              have er3 := er2.step s3 fun _ _ z => z
              unfold forStep at hs
              cases q1 : setT Γ t (.leaf d) e2 with
              | none => rw [q1] at hs; cases hs
              | some f1 =>
                rw [q1] at hs
                simp only at hs
                have s3' : Step F2 H2 (ofF fo2) F3 H3 (ofF fo2) := ((s3.frame (M := ofF fo2) (fun _ _ z => z) fun a z => (er2.there z).1).sub (M := ofF fo2) fun a z => z.elim id (fun y => y.elim)).weak fun a z => .inl z
                refine ⟨F3, e2, fo2, .leaf d, [], f1, s3.fh, er3, .leaf dx, List.nodup_nil, (fun _ z => nomatch z), q1, fun σ4 F4 H4 fo4 s4 er4 ag4 => ?_⟩
                have S4 : Step F2 H2 (ofF fo2) F4 H4 (ofF fo4) := s3'.trans (s4.sub fun a z => z.elim (fun y => nomatch y) id)
                refine ⟨F4, f1, fo4, o5, e5, s4.fh, er4, hs, ?_⟩
                have al : ∀ {σ' : L2.St}, Ag b.asgs σ4 σ' → Ag (t.asgs ++ b.asgs) σ2 σ' := fun {σ'} ag' => (ag4.mono fun i hi => List.mem_append_left _ hi).trans (ag'.mono fun i hi => List.mem_append_right _ hi)
                cases o5 with
                | nx => exact fun σ' F' H' fo' s' er' ag' => ⟨F', e5, fo', S.trans (S4.trans s'), er', ag2.trans (al ag'), wk2.step (S4.trans s') hfr (al ag'), hl⟩
                | ct => exact fun σ' F' H' fo' s' er' ag' => ⟨F', e5, fo', S.trans (S4.trans s'), er', ag2.trans (al ag'), wk2.step (S4.trans s') hfr (al ag'), hl⟩
                | bk =>
                  cases hl
                  exact fun σ' F' H' fo' s' er' ag' => q σ' F' H' fo' (S.trans (S4.trans s')) er' (ag2.trans (al ag'))
                | ret t =>
                  cases hl
                  exact fun v σ' F' H' fo' m s' er' ov nd dj ag' => q v σ' F' H' fo' m (S.trans (S4.trans s')) er' ov nd dj (ag2.trans (al ag'))
end
end PyI

/-! A part of a tree under a name of its own for one statement. -/
namespace PyI
open PySem PySem.Spec PyProof.Rows L2
section
variable {K : PySem.W.Frag} {σ : L2.St} {Γ : Ctx} {F H : Hp} {env : Env} {fo : Nat → List Addr}
/-- one tree out of several, and another put in its place -/
theorem ors_cut : ∀ {ts : List OT} {vs : List V} {l : List Addr} {k : Nat} {t : OT}, ORs K F H vs ts l → ts[k]? = some t → ∃ v l1 m l2, vs[k]? = some v ∧ OR K F H v t m ∧ l = l1 ++ (m ++ l2) ∧
    ∀ {F' H' : Hp} {t' : OT} {m' : List Addr}, Same F F' → (∀ a o, a ∈ l1 ∨ a ∈ l2 → H a = some o → H' a = some o ∧ F' a = F a) → OR K F' H' v t' m' → ORs K F' H' vs (ts.set k t') (l1 ++ (m' ++ l2))
  | _, _, _, _, _, .nil, e => by simp at e
  | _, _, _, 0, _, .cons (m := m) h r, e => by
    cases e
    exact ⟨_, [], _, m, rfl, h, rfl, fun {F' H' t' m'} fs k q => show ORs K F' H' (_ :: _) (t' :: _) (m' ++ m) from .cons q (ors_keep fs _ _ _ r fun a o ha ho => k a o (.inr ha) ho)⟩
  | _, _, _, k + 1, _, .cons (l := l0) h r, e => by
    obtain ⟨v, l1, m, l2, e1, e2, e3, f⟩ := ors_cut (k := k) r (by simpa using e)
    refine ⟨v, l0 ++ l1, m, l2, by simpa using e1, e2, by rw [e3, List.append_assoc], fun {F' H' t' m'} fs kk q => ?_⟩
    rw [List.append_assoc]
    exact .cons (or_keep fs _ _ _ h fun a o ha ho => kk a o (.inl (List.mem_append_left _ ha)) ho) (f fs (fun a o ha ho => kk a o (ha.imp (List.mem_append_right _) id) ho) q)
theorem set_same {i : Nat} {v : Option V} (h : σ[i]? = some v) : σ.set i v = σ := by
  obtain ⟨h1, h2⟩ := List.getElem?_eq_some_iff.mp h
  rw [← h2]; exact List.set_getElem_self h1
/-- the part taken, and the way back -/
theorem ali_in {i v : Nat} {key : D} {g : Option (List Key)} {ts : List OT} {j : Nat} {e1 : Env} {val : V} (er : ER K F H σ env fo) (h : aliIn i v key env = some (g, ts, j, e1)) (w : PathV H σ v [j] val) :
    ∃ fo1, ER K F H (σ.set i (some val)) e1 fo1 ∧ (∀ a, ofF fo1 a → ofF fo a) ∧
      ∀ {l : List Nat} {σ2 : L2.St} {F2 H2 : Hp} {fo2 : Nat → List Addr} {L2 : Addr → Prop} {e2 e3 : Env}, i ∉ l → v ∉ l → Step F H (ofF fo1) F2 H2 L2 → (∀ a, ofF fo2 a → L2 a) → ER K F2 H2 σ2 e2 fo2 → Ag l (σ.set i (some val)) σ2 → aliOut i v g ts j e2 = some e3 →
        ∃ fo3, ER K F2 H2 σ2 e3 fo3 ∧ (∀ a, ofF fo3 a → ofF fo2 a ∨ (ofF fo a ∧ ¬ L2 a)) := by
  unfold aliIn at h
  split at h
  · rename_i g0 ts0 hv
    split at h
    · rename_i j0 hj
      split at h
      · rename_i g1 us hu
        split at h
        · rename_i hi
          cases h
          obtain ⟨hi1, hi2⟩ := hi
          obtain ⟨v0, hs, ho⟩ := er.rep v _ hv
          obtain ⟨v0', hs', d, g', vs, w1, e0, p1, p0, p2, p3⟩ := w
          rw [hs] at hs'
          cases hs'
          subst e0
          have p3 : w1 = val := p3
          generalize hfo : fo v = fv at ho
          cases ho with
          | @nod _ _ vs0 _ l h1 h0 h2 h3 =>
            rw [h1] at p1
            obtain ⟨rfl, rfl⟩ := hoOf_inj h0 p0 (Option.some.inj p1)
            obtain ⟨x, l1, m, l2, c1, c2, c3, back⟩ := ors_cut h3 hu
            have cx : x = val := by rw [c1] at p2; exact (Option.some.inj p2).trans p3
            subst cx
            have ndv : (d :: l).Nodup := by rw [← hfo]; exact er.nd v
            rw [c3] at ndv
            have ndl := (List.nodup_cons.mp ndv).2
            have dl := (List.nodup_cons.mp ndv).1
            have mv : ∀ a, a ∈ m → a ∈ fo v := fun a ha => by rw [hfo, c3]; exact List.mem_cons_of_mem _ (List.mem_append_right _ (List.mem_append_left _ ha))
            have v1 : ∀ a, a ∈ l1 → a ∈ fo v := fun a ha => by rw [hfo, c3]; exact List.mem_cons_of_mem _ (List.mem_append_left _ ha)
            have v2 : ∀ a, a ∈ l2 → a ∈ fo v := fun a ha => by rw [hfo, c3]; exact List.mem_cons_of_mem _ (List.mem_append_right _ (List.mem_append_right _ ha))
            have dv : d ∈ fo v := by rw [hfo]; exact List.mem_cons_self
            have n1 : l1.Nodup := (List.nodup_append.mp ndl).1
            have nr := (List.nodup_append.mp ndl).2.1
            have x1 := (List.nodup_append.mp ndl).2.2
            have nm : m.Nodup := (List.nodup_append.mp nr).1
            have n2 : l2.Nodup := (List.nodup_append.mp nr).2.1
            have x2 := (List.nodup_append.mp nr).2.2
            have hvl : v < env.length := (List.getElem?_eq_some_iff.mp hv).1
            have ea := er.drop v (w := some (.ref d)) (.inr hs)
            rw [set_same hs] at ea
            have eb := ea.set (i := i) (by rw [List.length_set]; exact hi1) c2 nm fun a ha k hk => by
              unfold foSet
              split
              · exact fun z => nomatch z
              · rename_i c
                exact er.dj v k a (Ne.symm c) (mv a ha)
            have own1 : ∀ a, ofF (foSet (foSet fo v []) i m) a → a ∈ m ∨ ∃ k, k ≠ v ∧ a ∈ fo k := fun a ⟨k, hk⟩ => by
              unfold foSet at hk
              split at hk
              · exact .inl hk
              · split at hk
                · cases hk
                · rename_i c
                  exact .inr ⟨k, c, hk⟩
            refine ⟨_, eb, fun a ha => (own1 a ha).elim (fun z => ⟨v, mv a z⟩) fun ⟨k, _, hk⟩ => ⟨k, hk⟩, ?_⟩
            -- what stands outside meanwhile
            have out : ∀ a, a = d ∨ a ∈ l1 ∨ a ∈ l2 → ¬ ofF (foSet (foSet fo v []) i m) a ∧ ∃ o, H a = some o := fun a ha => by
              have av : a ∈ fo v := ha.elim (fun z => z ▸ dv) fun z => z.elim (v1 a) (v2 a)
              refine ⟨fun z => ?_, (er.there ⟨v, av⟩).1⟩
              rcases own1 a z with z | ⟨k, hk, z⟩
              · rcases ha with rfl | ha | ha
                · exact dl (List.mem_append_right _ (List.mem_append_left _ z))
                · exact x1 a ha a (List.mem_append_left _ z) rfl
                · exact x2 a z a ha rfl
              · exact er.dj v k a (Ne.symm hk) av z
            intro ls σ2 F2 H2 fo2 L2 e2 e3 il vl st ow er2 ag ho
            have off : ∀ a, a = d ∨ a ∈ l1 ∨ a ∈ l2 → ¬ L2 a := fun a ha z => (st.own a z).elim (out a ha).1 fun y => by
              obtain ⟨o, ho⟩ := (out a ha).2
              rw [ho] at y; cases y
            unfold aliOut at ho
            split at ho
            · rename_i g2 us2 q1 q2
              cases ho
              obtain ⟨x2v, r1, r2⟩ := er2.rep i _ q2
              have s2i : σ2[i]? = some (some x) := by rw [ag.2 i il]; exact List.getElem?_set_self (by rw [er.len]; exact hi1)
              rw [s2i] at r1
              cases r1
              have s2v : σ2[v]? = some (some (.ref d)) := by rw [ag.2 v vl, List.getElem?_set_ne hi2]; exact hs
              have kd := st.keep d _ h1 (out d (.inl rfl)).1
              have rr : OR K F2 H2 (.ref d) (.nod g (ts.set j (.nod g2 us2))) (d :: (l1 ++ (fo2 i ++ l2))) :=
                .nod kd.1 h0 (kd.2.trans h2) (back st.fs (fun a o ha hao => st.keep a o hao (out a (.inr ha)).1) r2)
              have en : v < (e2.set i none).length := by rw [List.length_set, ← er2.len, ag.1, List.length_set, er.len]; exact hvl
              have ec := er2.drop i (w := some x) (.inr s2i)
              rw [set_same s2i] at ec
              have nofo : ∀ a, a = d ∨ a ∈ l1 ∨ a ∈ l2 → ∀ k, a ∉ fo2 k := fun a ha k z => off a ha (ow a ⟨k, z⟩)
              have nd3 : (d :: (l1 ++ (fo2 i ++ l2))).Nodup := by
                refine List.nodup_cons.mpr ⟨fun z => ?_, List.nodup_append.mpr ⟨n1, List.nodup_append.mpr ⟨er2.nd i, n2, fun a ha b hb e => ?_⟩, fun a ha b hb e => ?_⟩⟩
                · rcases List.mem_append.mp z with z | z
                  · exact dl (List.mem_append_left _ z)
                  · rcases List.mem_append.mp z with z | z
                    · exact nofo d (.inl rfl) i z
                    · exact dl (List.mem_append_right _ (List.mem_append_right _ z))
                · subst e
                  exact nofo a (.inr (.inr hb)) i ha
                · subst e
                  rcases List.mem_append.mp hb with z | z
                  · exact nofo a (.inr (.inl ha)) i z
                  · exact x1 a ha a (List.mem_append_right _ z) rfl
              refine ⟨_, ec.re en s2v rr nd3 fun a ha k hk => ?_, fun a ha => ?_⟩
              · unfold foSet
                split
                · exact fun z => nomatch z
                · rename_i c
                  rcases List.mem_cons.mp ha with z | z
                  · exact nofo a (.inl z) k
                  · rcases List.mem_append.mp z with z | z
                    · exact nofo a (.inr (.inl z)) k
                    · rcases List.mem_append.mp z with z | z
                      · exact er2.dj i k a (Ne.symm c) z
                      · exact nofo a (.inr (.inr z)) k
              · obtain ⟨k, hk⟩ := ha
                unfold foSet at hk
                split at hk
                · rcases List.mem_cons.mp hk with z | z
                  · exact .inr ⟨⟨v, z ▸ dv⟩, off a (.inl z)⟩
                  · rcases List.mem_append.mp z with z | z
                    · exact .inr ⟨⟨v, v1 a z⟩, off a (.inr (.inl z))⟩
                    · rcases List.mem_append.mp z with z | z
                      · exact .inl ⟨i, z⟩
                      · exact .inr ⟨⟨v, v2 a z⟩, off a (.inr (.inr z))⟩
                · split at hk
                  · cases hk
                  · exact .inl ⟨k, hk⟩
            · cases ho
        · cases h
      · cases h
    · cases h
  · cases h
theorem ali_ev {i v : Nat} {key : D} {g : Option (List Key)} {ts : List OT} {j : Nat} {e1 : Env} (h : aliIn i v key env = some (g, ts, j, e1)) : ev Γ (.op .ix (.cons (.var v) (.cons (.c key) .nil))) env = some (.al v [j], env) := by
  unfold aliIn at h
  split at h
  · rename_i g0 ts0 hv
    split at h
    · rename_i j0 hj
      split at h
      · rename_i g1 us hu
        split at h
        · cases h
          have hl : env.look v [] = some (.nod g ts) := by unfold Env.look; rw [hv]; rfl
          simp [ev, evs, hv, R.deep, Es.quiet, E.quiet, opSem, isFlat, R.dat, R.tree, OT.dat, ixSem, hl, hj, hu]
        · cases h
      · cases h
    · cases h
  · cases h
theorem ali_rd {i v : Nat} {key : D} {s : S} {ss : Ss} {D : Ends} (h : TSs K Γ (.ali i v key s ss) D σ H) : tSeq (tAsg (TEv K Γ (.op .ix (.cons (.var v) (.cons (.c key) .nil)))) (gName i)) (tSeq (TSx K Γ s) (TSs K Γ ss)) D σ H := by
  obtain ⟨F, env, fo, o, env', fh, er, e, q⟩ := h
  unfold execs at e
  split at e
  · cases e
  · rename_i hc
    have hc : s.asgs.contains i = false ∧ s.asgs.contains v = false := by
      cases a : s.asgs.contains i <;> cases b : s.asgs.contains v <;> simp_all
    have il : i ∉ s.asgs := fun z => by rw [List.contains_iff_mem.mpr z] at hc; cases hc.1
    have vl : v ∉ s.asgs := fun z => by rw [List.contains_iff_mem.mpr z] at hc; cases hc.2
    cases h1 : aliIn i v key env with
    | none => rw [h1] at e; cases e
    | some z =>
      obtain ⟨g, ts, j, e1⟩ := z
      rw [h1] at e
      simp only at e
      cases h2 : exec Γ s e1 with
      | none => rw [h2] at e; cases e
      | some z =>
        obtain ⟨o1, e2⟩ := z
        rw [h2] at e
        simp only at e
        cases h3 : aliOut i v g ts j e2 with
        | none => rw [h3] at e; cases e
        | some e3 =>
          rw [h3] at e
          simp only at e
          refine ⟨F, env, fo, _, env, fh, er, ali_ev h1, fun x F' H' fo' l p => ?_⟩
          obtain ⟨_, hfo, hsm⟩ := p.qt rfl
          subst hfo
          have pw : PathV H' σ v [j] x := by cases p.rr with | al w => exact w
          have lw : l = [] := by cases p.rr with | al w => rfl
          subst lw
          have st0 : Step F H (ofF fo') F' H' (ofF fo') := ⟨p.st.fs, p.st.fh, fun b o e n => p.st.keep b o e fun z => z.elim (fun y => nomatch y) n, p.st.dom, fun a z => (p.st.own a (.inr z)).imp (fun y => y.elim (fun w => nomatch w) id) id⟩
          obtain ⟨fo1, er1, sub, back⟩ := ali_in p.er h1 pw
          have stp : ∀ {F2 H2 : Hp} {fo2 fo3 : Nat → List Addr} {L2 : Addr → Prop}, Step F' H' (ofF fo1) F2 H2 L2 → (∀ a, ofF fo2 a → L2 a) → (∀ a, ofF fo3 a → ofF fo2 a ∨ (ofF fo' a ∧ ¬ L2 a)) → Step F H (ofF fo') F2 H2 (fun a => L2 a ∨ ofF fo3 a) := fun st ow s3 =>
            st0.trans ⟨st.fs, st.fh, fun b o e n => st.keep b o e fun z => n (sub b z), st.dom, fun a z => z.elim (fun y => (st.own a y).imp (sub a) id) fun y => (s3 a y).elim (fun w => (st.own a (ow a w)).imp (sub a) id) fun w => .inl w.1⟩
          have agp : ∀ {σ2 : L2.St}, Ag s.asgs (σ.set i (some x)) σ2 → Ag (i :: (s.asgs ++ ss.asgs)) σ σ2 := fun ag =>
            ⟨by rw [ag.1, List.length_set], fun k hk => by
              rw [ag.2 k fun z => hk (List.mem_cons_of_mem _ (List.mem_append_left _ z)), List.getElem?_set_ne (fun z : i = k => hk (by rw [← z]; exact List.mem_cons_self))]⟩
          refine ⟨F', e1, fo1, o1, e2, st0.fh, er1, h2, ?_⟩
          cases o1 with
          | nx =>
            intro σ2 F2 H2 fo2 st er2 ag
            obtain ⟨fo3, er3, s3⟩ := back il vl st (fun _ z => z) er2 ag h3
            exact ⟨F2, e3, fo3, o, env', st.fh, er3, e, After.trans (D := D) q ((stp st (fun _ z => z) s3).weak fun a z => .inr z) (agp ag) fun k hk => List.mem_cons_of_mem _ (List.mem_append_right _ hk)⟩
          | bk =>
            cases e
            intro σ2 F2 H2 fo2 st er2 ag
            obtain ⟨fo3, er3, s3⟩ := back il vl st (fun _ z => z) er2 ag h3
            exact q σ2 F2 H2 fo3 ((stp st (fun _ z => z) s3).weak fun a z => .inr z) er3 (agp ag)
          | ct =>
            cases e
            intro σ2 F2 H2 fo2 st er2 ag
            obtain ⟨fo3, er3, s3⟩ := back il vl st (fun _ z => z) er2 ag h3
            exact q σ2 F2 H2 fo3 ((stp st (fun _ z => z) s3).weak fun a z => .inr z) er3 (agp ag)
          | ret t =>
            cases e
            intro v' σ2 F2 H2 fo2 m st er2 ov nd dj ag
            obtain ⟨fo3, er3, s3⟩ := back il vl st (fun _ z => .inr z) er2 ag h3
            exact q v' σ2 F2 H2 fo3 m ((stp st (fun _ z => .inr z) s3).weak fun a z => z.elim (fun y => .inl (.inl y)) .inr) er3 ov nd (fun a ha z => (s3 a z).elim (dj a ha) fun y => y.2 (.inl ha)) (agp ag)
end
end PyI

/-! Statements. -/
namespace PyI
open PySem PySem.Spec PyProof.Rows L2
theorem plain_some {sc : Scope} {env : PySem.Env} (hsc : env.scope = sc) {line : Nat} : ∀ {xs : List Expr} {ns : List Str}, plainNames sc line xs = some ns → (xs.filterMap fun e => match e with
    | .Name id pos => if env.kindOf id == some .local && pos.line == line then some id else none
    | _ => none) = ns ∧ ns.length = xs.length := by
  intro xs
  induction xs with
  | nil => intro ns h; cases h; exact ⟨rfl, rfl⟩
  | cons x xs ih =>
    intro ns h
    cases x with
    | Name id pos =>
      unfold plainNames at h
      split at h
      · rename_i c
        obtain ⟨ms, e1, e2⟩ := Option.map_eq_some_iff.mp h
        cases e2
        obtain ⟨i1, i2⟩ := ih e1
        have kk : env.kindOf id = some .local := by
          show env.scope.names.lookup id = _
          rw [hsc]; exact c.1
        refine ⟨?_, by simp [i2]⟩
        rw [List.filterMap_cons]
        simp only [kk, c.2, BEq.rfl, Bool.and_true, if_true, i1]
      · cases h
    | _ => unfold plainNames at h; cases h
theorem plain_none {sc : Scope} {env : PySem.Env} (hsc : env.scope = sc) {line : Nat} : ∀ {xs : List Expr}, plainNames sc line xs = none → (xs.filterMap fun e => match e with
    | .Name id pos => if env.kindOf id == some .local && pos.line == line then some id else none
    | _ => none).length < xs.length := by
  intro xs
  induction xs with
  | nil => intro h; cases h
  | cons x xs ih =>
    intro h
    have le : ∀ ys : List Expr, (ys.filterMap fun e => match e with
      | .Name id pos => if env.kindOf id == some .local && pos.line == line then some id else none
      | _ => none).length ≤ ys.length := fun ys => List.length_filterMap_le _ _
    cases x with
    | Name id pos =>
      unfold plainNames at h
      rw [List.filterMap_cons]
      split at h
      · have := ih (Option.map_eq_none_iff.mp h)
        split <;> first | exact Nat.lt_succ_of_lt this | exact Nat.succ_lt_succ this
      · rename_i c
        have : (env.kindOf id == some NameKind.local && pos.line == line) = false := by
          rw [Bool.and_eq_false_iff]
          by_cases c1 : sc.names.lookup id = some .local
          · right
            exact beq_eq_false_iff_ne.mpr fun z => c ⟨c1, z⟩
          · left
            show (env.scope.names.lookup id == _) = false
            rw [hsc]
            exact beq_eq_false_iff_ne.mpr c1
        simp only [this, Bool.false_eq_true, if_false]
        exact Nat.lt_succ_of_le (le xs)
    | _ => rw [List.filterMap_cons]; exact Nat.lt_succ_of_le (le xs)
def swNames (env : PySem.Env) (line : Nat) (xs : List Expr) : List Str := xs.filterMap fun e => match e with
    | .Name id pos => if env.kindOf id == some .local && pos.line == line then some id else none
    | _ => none
def swTail (nm : List Str) (xs vs : List Expr) : Sem (Option (List Str)) := if nm.length != xs.length || nm.eraseDups.length != nm.length then pure none else if vs.all (foldedForSure 8) then pure none else if vs.all (constantsAlone 8) then (do
  unsupported "assign.tuple-of-constant-expressions:order-of-the-stores"
  pure (some nm)) else pure (some nm)
theorem sw_of {sc : Scope} {env : PySem.Env} {xs vs : List Expr} {j1 j2 : Nat} {p1 p2 : Pos} {b : Bool} (hk : env.scope.kind = .function) (hsc : env.scope = sc) (hns : ∀ v ∈ vs, notStar v = true) (h : swapStores sc xs vs = some b) :
    if b = true then ∃ ns, plainNames sc ((xs.head?.map (·.pos.line)).getD 0) xs = some ns ∧ ns.eraseDups.length = ns.length ∧ (xs.length = 2 ∨ xs.length = 3) ∧ xs.length = vs.length ∧ swappedStores [.Tuple xs j1 p1] (.Tuple vs j2 p2) env = pure (some ns) else swappedStores [.Tuple xs j1 p1] (.Tuple vs j2 p2) env = pure none := by
  have hb : env.blockKind = .function := by unfold Env.blockKind; rw [hk]; rfl
  have hst : (vs.any fun | .Starred .. => true | _ => false) = false := by
    rw [List.any_eq_false]
    intro v hv
    have := hns v hv
    cases v <;> first | exact Bool.false_ne_true | cases this
  unfold swapStores at h
  by_cases c1 : xs.length = vs.length ∧ (xs.length = 2 ∨ xs.length = 3)
  · rw [if_pos c1] at h
    have t1 : (!(xs.length == 2 || xs.length == 3) || vs.length != xs.length || env.blockKind != .function) = false := by
      rw [hb]
      simp [c1.1.symm]
      rcases c1.2 with z | z <;> simp [z] <;> omega
    have sw : swappedStores [.Tuple xs j1 p1] (.Tuple vs j2 p2) env = swTail (swNames env ((xs.head?.map (·.pos.line)).getD 0) xs) xs vs := by
      unfold swappedStores
      simp only [t1]
      rw [if_neg Bool.false_ne_true]
      refine (if_neg fun z => ?_).trans rfl
      exact Bool.false_ne_true (hst.symm.trans z)
    rw [sw]
    cases hp : plainNames sc ((xs.head?.map (·.pos.line)).getD 0) xs with
    | none =>
      rw [hp] at h
      cases h
      have := plain_none hsc hp
      have n1 : (swNames env ((xs.head?.map (·.pos.line)).getD 0) xs).length != xs.length := by
        simp only [bne_iff_ne]
        exact Nat.ne_of_lt this
      rw [if_neg Bool.false_ne_true]
      unfold swTail
      rw [n1]
      rfl
    | some ns =>
      rw [hp] at h
      obtain ⟨q1, q2⟩ := plain_some hsc hp
      have q1 : swNames env ((xs.head?.map (·.pos.line)).getD 0) xs = ns := q1
      rw [q1]
      simp only at h
      by_cases c2 : ns.eraseDups.length = ns.length
      · rw [if_pos c2] at h
        have n1 : (ns.length != xs.length || ns.eraseDups.length != ns.length) = false := by simp [q2, c2]
        unfold swTail
        rw [n1]
        by_cases c3 : vs.all (foldedForSure 8) = true
        · rw [if_pos c3] at h
          cases h
          rw [if_neg Bool.false_ne_true, if_neg Bool.false_ne_true, if_pos c3]
        · rw [if_neg c3] at h
          by_cases c4 : vs.all (constantsAlone 8) = true
          · rw [if_pos c4] at h; cases h
          · rw [if_neg c4] at h
            cases h
            rw [if_pos rfl, if_neg Bool.false_ne_true, if_neg c3, if_neg c4]
            exact ⟨ns, rfl, c2, c1.2, c1.1, rfl⟩
      · rw [if_neg c2] at h
        cases h
        have n1 : (ns.length != xs.length || ns.eraseDups.length != ns.length) = true := by simp [c2]
        unfold swTail
        rw [n1]
        rfl
  · rw [if_neg c1] at h
    cases h
    rw [if_neg Bool.false_ne_true]
    have t1 : (!(xs.length == 2 || xs.length == 3) || vs.length != xs.length || env.blockKind != .function) = true := by
      by_cases c2 : xs.length = vs.length
      · have c3 : ¬ (xs.length = 2 ∨ xs.length = 3) := fun z => c1 ⟨c2, z⟩
        have : (xs.length == 2 || xs.length == 3) = false := by
          simp only [Bool.or_eq_false_iff, beq_eq_false_iff_ne]
          omega
        rw [this]
        rfl
      · have : (vs.length != xs.length) = true := by simp only [bne_iff_ne]; omega
        rw [this]
        simp
    unfold swappedStores
    simp only [t1]
    rfl
section
variable {P : List Def} {k : Nat} {N : List Str} {sc : Scope} {X : Cx} {Γ : Ctx}
theorem PS.imp {e : Stmt} {t t' : TS} (h : PS X e t) (q : ∀ D σ H, t' D σ H → t D σ H) : PS X e t' := ⟨fun pins s σ H D I w => h.run pins s σ H D I (q D σ H w)⟩
theorem PSs.imp {e : List Stmt} {t t' : TS} (h : PSs X e t) (q : ∀ D σ H, t' D σ H → t D σ H) : PSs X e t' := ⟨fun pins s σ H D I w => h.run pins s σ H D I (q D σ H w)⟩
theorem swc_eq {elt : Expr} {gs : List Comprehension} {scope : Scope} {pos py : Pos} {y : Str} {l : Nat} {env : PySem.Env} : swapsWith (.ListComp elt gs scope pos) (some (.Name y py)) l env = pure (env.blockKind == .function && env.kindOf y == some .local && py.line == pos.line && !(scope.names.any fun (n, k) => n == y && (k == .local || k == .cell))) := rfl
theorem asg_of {K : PySem.W.Frag} {i : Nat} {e : E} {D : Ends} {σ : L2.St} {H : Hp} (h : TSx K Γ (.asg i e) D σ H) : tAsg (TEv K Γ e) (gName i) D σ H :=
  TEv.mono (store_rd (s := .asg i e) (t := .nm i) rfl (fun _ _ _ z => asg_ex z) h) fun v H1 q => tg_name q
theorem ok_set (c : CxOk P k N sc true X) {i : Nat} {e : E} {x : Str} {p pos : Pos} {v : Expr} (h1 : N[i]? = some x) (h2 : locB true sc x = true) (h3 : notComp v = true) (h4 : chkE P N sc e v = true) : PS X (.Assign [.Name x p] v pos) (tAsg (TEv X.K (ctxOf P k) e) (gName i)) := by
  have hi : X.N[i]? = some x := by rw [c.hN]; exact h1
  exact ps_set c.nd hi (c.loc h2).1 (okE e sc true X c v h4).pe (by cases v <;> first | rfl | cases h3) (c.loc h2).2
theorem ok_asg (c : CxOk P k N sc true X) {i : Nat} {e : E} {x : Str} {p pos : Pos} {v : Expr} (h1 : N[i]? = some x) (h2 : locB true sc x = true) (h3 : (e.isComp || notComp v) = true) (h4 : chkE P N sc e v = true) : PS X (.Assign [.Name x p] v pos) (TSx X.K (ctxOf P k) (.asg i e)) := by
  have hi : X.N[i]? = some x := by rw [c.hN]; exact h1
  have he := (okE e sc true X c v h4).pe
  have plain : ∀ {v : Expr}, PE X v (TEv X.K (ctxOf P k) e) → swapsWith v (some (.Name x p)) pos.line X.env = pure false → PS X (.Assign [.Name x p] v pos) (TSx X.K (ctxOf P k) (.asg i e)) := fun {v} he hs => PS.imp (ps_set c.nd hi (c.loc h2).1 he hs (c.loc h2).2) fun D σ H q => asg_of q
  cases hc : e.isComp with
  | false =>
    rw [hc] at h3
    refine plain he ?_
    cases v <;> first | rfl | cases h3
  | true =>
    cases e with
    | comp elt t it cond own =>
      unfold chkE at h4
      split at h4 <;> first | contradiction | skip
      rename_i y tg iter ifs scope pos2 heq
      cases heq
      simp only [Bool.and_eq_true, List.all_eq_true] at h4
      obtain ⟨⟨⟨⟨⟨⟨g1, g2⟩, g3⟩, g4⟩, g5⟩, g6⟩, g7⟩ := h4
      cases hb : (X.env.blockKind == .function && X.env.kindOf x == some .local && p.line == pos2.line && !(scope.names.any fun (n, k) => n == x && (k == .local || k == .cell))) with
      | false => exact plain he (by rw [swc_eq, hb])
      | true =>
        have ok : BlkOk X.N X.env.scope scope own := by rw [c.hN, c.sc]; exact blkOk_by g1
        have hyl : X.env.scope.names.lookup x = some .local := by
          simp only [Bool.and_eq_true] at hb
          exact eq_of_beq hb.1.1.2
        refine PS.imp (ps_setLc (wi := TIt X.K (ctxOf P k) it) (g := TTg X.K (ctxOf P k) t) (tt := tC X.K (ctxOf P k) cond) (te := TEv X.K (ctxOf P k) elt) c.calm c.nd hi hyl (by rw [swc_eq, hb]) (okIt it sc true X c iter tg g3) ok (fun s H C cl fp => okT t _ false _ (c.blk s H scope cl C fp) tg g5) (fun s H C cl fp => okC cond _ false _ (c.blk s H scope cl C fp) ifs g6) (fun s H C cl fp => (okE elt _ false _ (c.blk s H scope cl C fp) y g7).pe) (notSet_of g4 X.env)) fun D σ H q => ?_
        exact comp_rd (fun i hi => by simpa using g2 i hi) (asg_of q)
    | _ => cases hc
theorem chkEs_star : ∀ {as : Es} {es : List Expr}, chkEs P N sc as es = true → ∀ v ∈ es, notStar v = true
  | .nil, [], _, v, hv => nomatch hv
  | .nil, _ :: _, h, _, _ => by unfold chkEs at h; cases h
  | .cons a as, [], h, _, _ => by unfold chkEs at h; cases h
  | .cons a as, x :: xs, h, v, hv => by
    unfold chkEs at h
    obtain ⟨h, h3⟩ := Bool.and_eq_true_iff.mp h
    obtain ⟨h1, h2⟩ := Bool.and_eq_true_iff.mp h
    rcases List.mem_cons.mp hv with z | z
    · rw [z]; exact h2
    · exact chkEs_star h3 v z
theorem plain_cons {line : Nat} {x : Expr} {xs : List Expr} {ns : List Str} (h : plainNames sc line (x :: xs) = some ns) : ∃ y p ms, x = .Name y p ∧ ns = y :: ms ∧ sc.names.lookup y = some .local ∧ plainNames sc line xs = some ms := by
  cases x with
  | Name y p =>
    unfold plainNames at h
    split at h
    · rename_i c
      obtain ⟨ms, e1, e2⟩ := Option.map_eq_some_iff.mp h
      exact ⟨y, p, ms, rfl, e2.symm, c.1, e1⟩
    · cases h
  | _ => unfold plainNames at h; cases h
theorem chkTs_cons {ts : Ts} {x : Str} {p : Pos} {xs : List Expr} (h : chkTs P N sc true ts (.Name x p :: xs) = true) : ∃ i us, ts = .cons (.nm i) us ∧ N[i]? = some x ∧ chkTs P N sc true us xs = true := by
  cases ts with
  | nil => unfold chkTs at h; cases h
  | cons t us =>
    unfold chkTs at h
    obtain ⟨h, h3⟩ := Bool.and_eq_true_iff.mp h
    obtain ⟨h1, h2⟩ := Bool.and_eq_true_iff.mp h
    cases t with
    | nm i =>
      unfold chkT at h1
      simp only [Bool.and_eq_true, decide_eq_true_eq] at h1
      exact ⟨i, us, rfl, h1.1, h3⟩
    | _ => unfold chkT at h1; cases h1
theorem chkTs_nil {ts : Ts} (h : chkTs P N sc true ts [] = true) : ts = .nil := by
  cases ts with
  | nil => rfl
  | cons _ _ => unfold chkTs at h; cases h
theorem ne_of_dups {a b : Str} {r : List Str} (h : (a :: r).eraseDups.length = (a :: r).length) (hb : b ∈ r) : a ≠ b := by
  intro e
  subst e
  rw [List.eraseDups_cons] at h
  have h1 : ((r.filter fun b => !b == a).eraseDups).length ≤ (r.filter fun b => !b == a).length := by
    have aux : ∀ (n : Nat) (l : List Str), l.length ≤ n → l.eraseDups.length ≤ l.length := by
      intro n
      induction n with
      | zero => intro l hl; rw [List.length_eq_zero_iff.mp (Nat.le_zero.mp hl)]; exact Nat.le_refl _
      | succ n ih =>
        intro l hl
        cases l with
        | nil => exact Nat.le_refl _
        | cons x l =>
          rw [List.eraseDups_cons]
          have q : (l.filter fun b => !b == x).length ≤ l.length := List.length_filter_le _ _
          have := ih (l.filter fun b => !b == x) (by simp at hl; omega)
          simp only [List.length_cons]
          omega
    exact aux _ _ (Nat.le_refl _)
  have h2 : (r.filter fun b => !b == a).length < r.length := by
    apply List.length_filter_lt_length_iff_exists.mpr
    exact ⟨a, hb, by simp⟩
  simp only [List.length_cons] at h
  omega
theorem ok_par (c : CxOk P k N sc true X) {ts : Ts} {es : Es} {xs vs : List Expr} {j1 j2 : Nat} {p1 p2 pos : Pos} (h1 : chkTs P N sc true ts xs = true) (h2 : chkEs P N sc es vs = true) (h3 : vs.length ≤ 1000) (h4 : (swapStores sc xs vs).isSome = true) : PS X (.Assign [.Tuple xs j1 p1] (.Tuple vs j2 p2) pos) (TSx X.K (ctxOf P k) (.par ts es)) := by
  obtain ⟨b, hb⟩ := Option.isSome_iff_exists.mp h4
  have pe := okEs es sc true X c vs h2
  refine ⟨fun pins s σ H D I h => ?_⟩
  have sw := sw_of (j1 := j1) (j2 := j2) (p1 := p1) (p2 := p2) I.ok.kind c.sc (chkEs_star h2) hb
  cases b with
  | false =>
    rw [if_neg Bool.false_ne_true] at sw
    have gt := okTs ts sc true X c xs h1
    exact (PS.imp (ps_asg (pe_tup (pas pe)) (pg_tup c.calm (pgs_of gt).1 (pgs_of gt).2.1 (pgs_of gt).2.2) rfl sw) fun D σ H q => par_tup (by rw [pes_len pe]; exact h3) q).run pins s σ H D I h
  | true =>
    rw [if_pos rfl] at sw
    obtain ⟨ns, hp, hd, hl, hlv, hw⟩ := sw
    have two : ∀ {σ : L2.St} {H : Hp} {i : Nat} {us : Ts} {ws : List V} {Q : L2.St → Hp → Prop}, TTgs X.K (ctxOf P k) (.cons (.nm i) us) ws σ H Q → ∃ v r, ws = v :: r ∧ TTgs X.K (ctxOf P k) us r (σ.set i (some v)) H Q := fun {σ H i us ws Q} z => by
      obtain ⟨v, r, e, q⟩ := tgs_cons z
      exact ⟨v, r, e, tg_name q⟩
    match xs, hp, hl, hlv, h1, hw with
    | [], _, hl, _, _, _ => simp at hl
    | [_], _, hl, _, _, _ => simp at hl
    | [x1, x2], hp, hl, hlv, h1, hw =>
      obtain ⟨y1, q1, m1, rfl, rfl, l1, hp⟩ := plain_cons hp
      obtain ⟨y2, q2, m2, rfl, rfl, l2, hp⟩ := plain_cons hp
      cases hp
      obtain ⟨i1, u1, rfl, n1, h1⟩ := chkTs_cons h1
      obtain ⟨i2, u2, rfl, n2, h1⟩ := chkTs_cons h1
      cases chkTs_nil h1
      have ne : y1 ≠ y2 := ne_of_dups hd (by simp)
      obtain ⟨a, b, rfl⟩ : ∃ a b, vs = [a, b] := by
        match vs, hlv with
        | [a, b], _ => exact ⟨a, b, rfl⟩
      refine (ps_par c.calm c.nd (by rw [c.hN]; exact n1) (by rw [c.hN]; exact n2) (fun z => ne ?_) (by rw [c.sc]; exact l1) (by rw [c.sc]; exact l2) (pas pe) hw rfl).run pins s σ H D I (seqT_mono (par_rd h) fun ws H1 ⟨_, q⟩ => ?_)
      · rw [z, n2] at n1
        exact (Option.some.inj n1).symm
      · obtain ⟨v, r1, rfl, qa⟩ := two q
        obtain ⟨w, r2, rfl, qb⟩ := two qa
        obtain ⟨rfl, qc⟩ := gtgs_nil qb
        exact ⟨v, w, rfl, qc⟩
    | [x1, x2, x3], hp, hl, hlv, h1, hw =>
      obtain ⟨y1, q1, m1, rfl, rfl, l1, hp⟩ := plain_cons hp
      obtain ⟨y2, q2, m2, rfl, rfl, l2, hp⟩ := plain_cons hp
      obtain ⟨y3, q3, m3, rfl, rfl, l3, hp⟩ := plain_cons hp
      cases hp
      obtain ⟨i1, u1, rfl, n1, h1⟩ := chkTs_cons h1
      obtain ⟨i2, u2, rfl, n2, h1⟩ := chkTs_cons h1
      obtain ⟨i3, u3, rfl, n3, h1⟩ := chkTs_cons h1
      cases chkTs_nil h1
      have ne1 : y1 ≠ y2 := ne_of_dups hd (by simp)
      have ne2 : y1 ≠ y3 := ne_of_dups hd (by simp)
      have ne3 : y2 ≠ y3 := by
        intro e
        subst e
        simp [List.eraseDups_cons, List.filter] at hd
        cases hq : (y2 == y1) <;> simp [hq, List.eraseDups_cons, List.filter] at hd
      obtain ⟨a, b, d, rfl⟩ : ∃ a b d, vs = [a, b, d] := by
        match vs, hlv with
        | [a, b, d], _ => exact ⟨a, b, d, rfl⟩
      have inj : ∀ {i j : Nat} {x y : Str}, N[i]? = some x → N[j]? = some y → x ≠ y → i ≠ j := fun hx hy hn z => by
        rw [z, hy] at hx
        exact hn (Option.some.inj hx).symm
      refine (ps_par3 c.calm c.nd (by rw [c.hN]; exact n1) (by rw [c.hN]; exact n2) (by rw [c.hN]; exact n3) (inj n1 n2 ne1) (inj n1 n3 ne2) (inj n2 n3 ne3) (by rw [c.sc]; exact l1) (by rw [c.sc]; exact l2) (by rw [c.sc]; exact l3) (pas pe) hw rfl).run pins s σ H D I (seqT_mono (par_rd h) fun ws H1 ⟨_, q⟩ => ?_)
      obtain ⟨u, r1, rfl, qa⟩ := two q
      obtain ⟨v, r2, rfl, qb⟩ := two qa
      obtain ⟨w, r3, rfl, qc⟩ := two qb
      obtain ⟨rfl, qd⟩ := gtgs_nil qc
      exact ⟨u, v, w, rfl, qd⟩
    | _ :: _ :: _ :: _ :: _, _, hl, _, _, _ => simp at hl
theorem swn (v : Expr) (h : notComp v = true) (t : Option Expr) (l : Nat) (env : PySem.Env) : swapsWith v t l env = pure false := by
  cases v <;> first | rfl | cases h
end
mutual
theorem okS {P : List Def} {k : Nat} {N : List Str} : ∀ (a : S) (sc : Scope) (X : Cx), CxOk P k N sc true X → ∀ e, chkS P N sc a e = true → PS X e (TSx X.K (ctxOf P k) a)
  | .asg i e, sc, X, c, st, h => by
    unfold chkS at h
    split at h <;> first | contradiction | skip
    rename_i heq
    cases heq
    simp only [Bool.and_eq_true, decide_eq_true_eq] at h
    obtain ⟨⟨⟨h1, h2⟩, h3⟩, h4⟩ := h
    exact ok_asg c h1 h2 h3 h4
  | .par ts es, sc, X, c, st, h => by
    unfold chkS at h
    split at h <;> first | contradiction | skip
    rename_i heq
    cases heq
    simp only [Bool.and_eq_true, decide_eq_true_eq] at h
    obtain ⟨⟨⟨⟨h1, h2⟩, h3⟩, h4⟩, h5⟩ := h
    exact ok_par c h1 h2 h3 h4
  | .unp t e, sc, X, c, st, h => by
    unfold chkS at h
    split at h <;> first | contradiction | skip
    rename_i heq
    cases heq
    rename_i xs j p v pos
    obtain ⟨h, h3⟩ := Bool.and_eq_true_iff.mp h
    obtain ⟨h1, h2⟩ := Bool.and_eq_true_iff.mp h
    refine PS.imp (ps_asg (okE e sc true X c v h2).pe (ok_tup c (okTs t sc true X c xs h1)) (by cases v <;> rfl) (by cases v <;> first | rfl | cases h3)) fun D σ H q => store_rd (s := .unp t e) (t := .tup t) rfl (fun _ _ _ z => unp_ex z) q
  | .put o i e, sc, X, c, st, h => by
    unfold chkS at h
    split at h <;> first | contradiction | skip
    rename_i heq
    cases heq
    rename_i x y p v pos
    simp only [Bool.and_eq_true] at h
    obtain ⟨⟨⟨h1, h2⟩, h3⟩, h4⟩ := h
    refine PS.imp (ps_asg (okE e sc true X c v h4).pe (ok_sub (by have := c.room.un; omega) h1 (okE o sc true X c x h2).pe (okE i sc true X c y h3).pe) (by cases v <;> rfl) (by cases v <;> rfl)) fun D σ H q => store_rd (s := .put o i e) (t := .sub o i) rfl (fun _ _ _ z => put_ex z) q
  | .ex e, sc, X, c, st, h => by
    unfold chkS at h
    split at h <;> first | contradiction | skip
    rename_i heq
    cases heq
    obtain ⟨h1, h2⟩ := Bool.and_eq_true_iff.mp h
    exact PS.imp (ps_expr (okE e sc true X c _ h1).pe (swn _ h2 _ _ _)) fun D σ H q => ex_rd q
  | .ret e, sc, X, c, st, h => by
    unfold chkS at h
    split at h <;> first | contradiction | skip
    rename_i heq
    cases heq
    exact PS.imp (ps_ret (okE e sc true X c _ h).pe) fun D σ H q => ret_rd q
  | .retN, sc, X, c, st, h => by
    unfold chkS at h
    split at h <;> first | contradiction | skip
    exact PS.imp ps_retN fun D σ H q => retN_rd q
  | .ife p a b, sc, X, c, st, h => by
    unfold chkS at h
    split at h <;> first | contradiction | skip
    rename_i heq
    cases heq
    obtain ⟨h, h3⟩ := Bool.and_eq_true_iff.mp h
    obtain ⟨h1, h2⟩ := Bool.and_eq_true_iff.mp h
    exact PS.imp (ps_if (okE p sc true X c _ h1).pt (okSs a sc X c _ h2) (okSs b sc X c _ h3)) fun D σ H q => if_rd q
  | .loop t it b, sc, X, c, st, h => by
    unfold chkS at h
    split at h <;> first | contradiction | skip
    rename_i heq
    cases heq
    simp only [Bool.and_eq_true] at h
    obtain ⟨⟨⟨h1, h2⟩, h3⟩, h4⟩ := h
    exact PS.imp (ps_for (by rw [c.xe]; exact PassesOwn.never) c.calm (okIt it sc true X c _ _ h1) (okT t sc true X c _ h3) (okSs b sc X c _ h4) (notSet_of h2 X.env)) fun D σ H q => for_rd q
  | .whl p b, sc, X, c, st, h => by
    unfold chkS at h
    split at h <;> first | contradiction | skip
    rename_i heq
    cases heq
    obtain ⟨h1, h2⟩ := Bool.and_eq_true_iff.mp h
    exact PS.imp (ps_while (by rw [c.xe]; exact PassesOwn.never) (okE p sc true X c _ h1).pt (okSs b sc X c _ h2)) fun D σ H q => whl_rd q
  | .brk, sc, X, c, st, h => by
    unfold chkS at h
    split at h <;> first | contradiction | skip
    exact PS.imp ps_break fun D σ H q => brk_rd q
  | .cont, sc, X, c, st, h => by
    unfold chkS at h
    split at h <;> first | contradiction | skip
    exact PS.imp ps_continue fun D σ H q => cont_rd q
  | .pass, sc, X, c, st, h => by
    unfold chkS at h
    split at h <;> first | contradiction | skip
    exact PS.imp ps_pass fun D σ H q => pass_rd q
theorem okSs {P : List Def} {k : Nat} {N : List Str} : ∀ (a : Ss) (sc : Scope) (X : Cx), CxOk P k N sc true X → ∀ e, chkSs P N sc a e = true → PSs X e (TSs X.K (ctxOf P k) a)
  | .nil, sc, X, c, st, h => by
    cases st with
    | nil => exact PSs.imp pss_nil fun D σ H q => ss_nil q
    | cons _ _ => unfold chkSs at h; cases h
  | .cons s ss, sc, X, c, st, h => by
    cases st with
    | nil => unfold chkSs at h; cases h
    | cons x xs =>
      unfold chkSs at h
      obtain ⟨h1, h2⟩ := Bool.and_eq_true_iff.mp h
      exact PSs.imp (pss_cons (okS s sc X c x h1) (okSs ss sc X c xs h2)) fun D σ H q => ss_cons q
  | .ali i v key s ss, sc, X, c, st, h => by
    unfold chkSs at h
    split at h <;> first | contradiction | skip
    rename_i heq
    cases heq
    simp only [Bool.and_eq_true, decide_eq_true_eq] at h
    obtain ⟨⟨⟨⟨⟨h1, h2⟩, h3⟩, h4⟩, h5⟩, h6⟩ := h
    exact PSs.imp (pss_cons (ok_set c h1 h2 h3 h4) (pss_cons (okS s sc X c _ h5) (okSs ss sc X c _ h6))) fun D σ H q => ali_rd q
end
end PyI

/-! Defs, by the depth of calls. -/
namespace PyI
open PySem PySem.Spec PyProof.Rows L2
section
variable {K : PySem.W.Frag} {F H : Hp}
theorem ors_feet : ∀ {vs : List V} {ts : List OT} {l : List Addr}, ORs K F H vs ts l → l.Nodup → ∃ g : Nat → List Addr, (∀ i t, ts[i]? = some t → ∃ v, vs[i]? = some v ∧ OR K F H v t (g i)) ∧ (∀ i, (g i).Nodup) ∧ (∀ i a, a ∈ g i → a ∈ l) ∧ (∀ i j a, i ≠ j → a ∈ g i → a ∉ g j) ∧ ∀ i, ts.length ≤ i → g i = []
  | _, _, _, .nil, _ => ⟨fun _ => [], fun i r h => by simp at h, fun _ => List.nodup_nil, (fun _ _ h => nomatch h), (fun _ _ _ _ h => nomatch h), fun _ _ => rfl⟩
  | _, _, _, .cons (l := l1) (m := l2) h1 h2, nd => by
    obtain ⟨n1, n2, n3⟩ := List.nodup_append.mp nd
    obtain ⟨g, g1, g2, g3, g4, g5⟩ := ors_feet h2 n2
    refine ⟨fun i => match i with | 0 => l1 | i + 1 => g i, fun i r h => ?_, fun i => ?_, fun i a h => ?_, fun i j a hij h1 h2 => ?_, fun i hi => ?_⟩
    · cases i with
      | zero => cases h; exact ⟨_, rfl, h1⟩
      | succ i => exact g1 i r (by simpa using h)
    · cases i with
      | zero => exact n1
      | succ i => exact g2 i
    · cases i with
      | zero => exact List.mem_append_left _ h
      | succ i => exact List.mem_append_right _ (g3 i a h)
    · cases i with
      | zero =>
        cases j with
        | zero => exact hij rfl
        | succ j => exact n3 a h1 a (g3 j a h2) rfl
      | succ i =>
        cases j with
        | zero => exact n3 a h2 a (g3 i a h1) rfl
        | succ j => exact g4 i j a (fun z => hij (by rw [z])) h1 h2
    · cases i with
      | zero => simp at hi
      | succ i => exact g5 i (by simp at hi; omega)
/-- the frame at a def's entry -/
theorem start_er {vs : List V} {ts : List OT} {l : List Addr} (N : List Str) (h : ORs K F H vs ts l) (nd : l.Nodup) : ∃ fo, ER K F H (start N vs) (ts.map some ++ List.replicate (N.length - ts.length) none) fo ∧ ∀ a, ofF fo a → a ∈ l := by
  obtain ⟨g, g1, g2, g3, g4, g5⟩ := ors_feet h nd
  have hl := ors_length h
  refine ⟨g, ⟨?_, fun i t e => ?_, fun i e => ?_, g2, g4⟩, fun a ⟨i, hi⟩ => g3 i a hi⟩
  · unfold L2.start
    simp [hl]
  · by_cases c : i < ts.length
    · rw [List.getElem?_append_left (by simpa using c), List.getElem?_map] at e
      cases hq : ts[i]? with
      | none => rw [hq] at e; cases e
      | some u =>
        rw [hq] at e
        cases e
        obtain ⟨v, e1, e2⟩ := g1 i _ hq
        refine ⟨v, ?_, e2⟩
        unfold L2.start
        rw [List.getElem?_append_left (by simp [hl]; omega), List.getElem?_map, e1]
        rfl
    · rw [List.getElem?_append_right (by simpa using Nat.le_of_not_lt c), List.getElem?_replicate] at e
      split at e <;> cases e
  · by_cases c : i < ts.length
    · exact absurd (by rw [List.getElem?_append_left (by simpa using c), List.getElem?_map, List.getElem?_eq_getElem c]; rfl) (e ts[i])
    · exact g5 i (Nat.le_of_not_lt c)
/-- what the parameters hold at the end -/
theorem fin_er {d : Def} {vs : List V} {σ : L2.St} {env : Env} {fo : Nat → List Addr} (hn : vs.length = d.n) (er : ER K F H σ env fo) (ag : Ag d.body.asgs (start d.N vs) σ) : ∃ fo', ER K F H (vs.map some) (d.fin env) fo' ∧ ∀ a, ofF fo' a → ofF fo a := by
  refine ⟨fun j => if j < d.n ∧ d.keep j = true then fo j else [], ⟨?_, fun i t e => ?_, fun i e => ?_, fun i => ?_, fun i j a hij h1 h2 => ?_⟩, fun a ⟨i, hi⟩ => ?_⟩
  · unfold Def.fin
    simp [hn]
  · unfold Def.fin at e
    rw [List.getElem?_map] at e
    by_cases c : i < d.n
    · rw [List.getElem?_range c] at e
      simp only [Option.map_some, Option.some.injEq] at e
      by_cases hk : d.keep i = true
      · rw [if_pos hk] at e
        have e' : env[i]? = some (some t) := by
          rw [List.getD_eq_getElem?_getD] at e
          cases hq : env[i]? with
          | none => rw [hq] at e; cases e
          | some o => rw [hq] at e; rw [show o = some t from e]
        obtain ⟨v, g1, g2⟩ := er.rep i t e'
        have hna : i ∉ d.body.asgs := fun z => by
          unfold Def.keep at hk
          simp [z] at hk
        have q := ag.2 i hna
        rw [g1] at q
        unfold L2.start at q
        rw [List.getElem?_append_left (by simp [hn]; omega)] at q
        exact ⟨v, q.symm, by rw [if_pos ⟨c, hk⟩]; exact g2⟩
      · rw [if_neg hk] at e; cases e
    · rw [List.getElem?_eq_none (by simpa using Nat.le_of_not_lt c)] at e
      cases e
  · split
    · rename_i c
      refine er.non i fun t z => e t ?_
      unfold Def.fin
      rw [List.getElem?_map, List.getElem?_range c.1]
      simp only [Option.map_some, Option.some.injEq]
      rw [if_pos c.2, List.getD_eq_getElem?_getD, z]
      rfl
    · rfl
  · split
    · exact er.nd i
    · exact List.nodup_nil
  · split at h1
    · split at h2
      · exact er.dj i j a hij h1 h2
      · cases h2
    · cases h1
  · replace hi : a ∈ (if i < d.n ∧ d.keep i = true then fo i else []) := hi
    split at hi
    · exact ⟨i, hi⟩
    · cases hi
end
section
variable {P : Program} {w : World} {K : PySem.W.Frag} {mg : Str → Option Value} {base : Heap}
/-- a def by its body, where no repr is under way -/
theorem fnG_of {x : Str} {st : Stmt} {a : Addr} {fd : FuncData} {N ps : List Str} {k n : Nat} {sp : List V → Hp → VK → Prop} {t : TS} (Fn : Fun K x x st a fd) (S : FnScope N ps (defScope st)) (len : ∀ vs H Q, sp vs H Q → vs.length = ps.length)
    (body : ∀ (cdv : Value) (A : Around) (outer : List PySem.Env) (s : Shared) (H : Hp), Room k (A.deeper (envOfC x (defScope st) s.heap.objs.size a cdv)) → A.guards = some [] → PSs (cxOf CX0 P w K mg base N x (defScope st) a cdv A outer s H E0).nox (defBody st) t)
    (rd : ∀ vs H Q, sp vs H Q → t { nx := fun _ H' => Q .non H', rt := Q } (start N vs) H) : FnG P w K mg base (k + 1) a fd n sp ps := by
  obtain ⟨oc, od, kV, doc, pm, an, cdv, ct, osl, rfl, lk, hcd⟩ := Fn.ex
  refine ⟨len, fun A outer s H args us vs Q hg hr e0 hb r hsp => ?_⟩
  have kin : K.In s.heap := e0.mod.kin.keeps fun b o e => (e0.bs b o e).1
  have room := hr.deeper (envOfC x (defScope st) s.heap.objs.size a cdv)
  have started := fun s1 z => inv_start (CX := CX0) (E := E0) (w := w) (K := K) (mg := mg) (qual := x) (f := a) (cd := cdv) (s1 := s1) S hr.hd e0 (len _ _ _ hsp) r z
  have kinds : ∀ y ∈ ps.zip us, (defScope st).names.lookup y.1 = some .local ∨ ((defScope st).names.lookup y.1 = some .cell ∧ ((cellsFrom (s.heap.objs.size + 1) (defScope st).names []).lookup y.1).isSome = true) := by
    rintro ⟨y, v⟩ hy
    refine (S.par y (List.of_mem_zip hy).1).imp id fun q => ⟨q, ?_⟩
    exact PySem.W.cellsFrom_some _ _ _ (.inl q)
  refine codeAny_call_function hr.depth (kin _ _ lk) rfl S.co S.gen rfl (PySem.W.codeRec_of kin hcd) (hb _ _ _ _ (wpAny_newFunctionEnv_cells S.kind kinds ?_))
  intro env he s1 z
  subst he
  refine ⟨(e0.mod.nolimit.keeps fun b o e => (e0.bs b o e).1).keeps z.toInCall.keep, codeAny_func ?_⟩
  refine wpAny_mono ((body cdv A outer s H room hg).nox.run [] s1 _ H { nx := fun _ H' => Q .non H', rt := Q } (started s1 z) (rd vs H Q hsp)) (fun fl s' done => ?_) fun e s' done => done
  have out : ∀ {σ' : L2.St} {H' : Hp} {v : V} {u : Value}, L2.Inv (cxOf CX0 P w K mg base N x (defScope st) a cdv A outer s H E0) [] σ' H' s' → RelV v u → Q v H' → CE outer P w H s Q u s' :=
    fun {σ' H' v u} J rv q => ⟨v, H', J.os, J.bare, J.base, J.hok, rv, q⟩
  cases fl with
  | ret u =>
    obtain ⟨v, σ', H', J, rv, q⟩ := done
    exact out J rv q
  | next =>
    obtain ⟨σ', H', J, q⟩ := done
    exact out (v := V.non) (u := Value.none) J rfl q
  | brk => obtain ⟨_, _, _, z⟩ := done; exact z.elim
  | cont => obtain ⟨_, _, _, z⟩ := done; exact z.elim
/-- a def of the table as it stands behind the top -/
structure DefOk (P0 : List Def) (K : PySem.W.Frag) (mg : Str → Option Value) (d : Def) : Prop where
  cn : ∀ c, d.const = some c → ∃ v u, mg d.name = some u ∧ RelV v u ∧ ∀ F, Dq K F v c
  ex : d.const = none → ∃ (st : Stmt) (a : Addr) (fd : FuncData), Fun K d.name d.name st a fd ∧ mg d.name = some (.ref a) ∧ DefBind K d fd ∧ FnScope d.N (d.N.take d.n) (defScope st) ∧ d.n ≤ d.N.length ∧ chkSs P0 d.N (defScope st) d.body (defBody st) = true
/-- one level more -/
theorem fn_step {P0 : List Def} {k f : Nat} {d : Def} {st : Stmt} {a : Addr} {fd : FuncData} (hd : P0[f]? = some d) (h1 : Fun K d.name d.name st a fd) (h4 : FnScope d.N (d.N.take d.n) (defScope st)) (h5 : d.n ≤ d.N.length) (h6 : chkSs P0 d.N (defScope st) d.body (defBody st) = true) (blt : ∀ x ∈ bltNames, mg x = none)
    (cts : ∀ q ∈ P0, ∀ c, q.const = some c → ∃ v u, mg q.name = some u ∧ RelV v u ∧ ∀ F, Dq K F v c) (fns : ∀ (f : Nat) (d : Def), P0[f]? = some d → d.const = none → ∃ a fd, mg d.name = some (.ref a) ∧ PySem.W.keepIn K (.ref a) = true ∧ DefBind K d fd ∧ FnG P w K mg base k a fd d.n (spF P0 K k f d.n) (d.N.take d.n)) : FnG P w K mg base (k + 1) a fd d.n (spF P0 K (k + 1) f d.n) (d.N.take d.n) := by
  refine fnG_of (t := TSs K (ctxOf P0 k) d.body) h1 h4 (fun vs H Q h => by rw [h.1, List.length_take]; omega) (fun cdv A outer s H hr hg => ?_) fun vs H Q h => ?_
  · exact okSs d.body (defScope st) _ ⟨rfl, h4.nd, rfl, rfl, hr, hg, fun _ _ => rfl, rfl, blt, cts, fns⟩ _ h6
  · obtain ⟨hn, F, ts, l, t, fin, fh, ov, nd, e, q⟩ := h
    unfold run at e
    rw [hd] at e
    simp only at e
    unfold runDef at e
    split at e
    · rename_i hts
      obtain ⟨fo, er, sub⟩ := start_er d.N ov nd
      have stp : ∀ {F' H' : Hp} {L' : Addr → Prop}, Step F H (ofF fo) F' H' L' → Step F H (fun a => a ∈ l) F' H' L' := fun s => s.sub sub
      cases hx : execs ⟨run P0 k, keepOf P0⟩ d.body (startE d ts) with
      | none => rw [hx] at e; cases e
      | some z =>
        obtain ⟨o, env'⟩ := z
        rw [hx] at e
        cases o with
        | nx =>
          cases e
          refine ⟨F, startE d ts, fo, .nx, env', fh, er, hx, fun σ' F' H' fo' s' er' ag => ?_⟩
          obtain ⟨fo2, er2, sub2⟩ := fin_er hn er' ag
          exact q .non F' H' [] fo2 ((stp s').weak fun a z => z.elim (fun y => nomatch y) (sub2 a)) (.leaf .non) List.nodup_nil (fun _ z => nomatch z) er2
        | ret t =>
          cases e
          refine ⟨F, startE d ts, fo, .ret t, env', fh, er, hx, fun v σ' F' H' fo' m s' er' ov' nd' dj ag => ?_⟩
          obtain ⟨fo2, er2, sub2⟩ := fin_er hn er' ag
          exact q v F' H' m fo2 ((stp s').weak fun a z => z.imp id (sub2 a)) ov' nd' (fun a ha z => dj a ha (sub2 a z)) er2
        | bk => cases e
        | ct => cases e
    · cases e
theorem fn_zero {P0 : List Def} {f : Nat} {d : Def} {a : Addr} {fd : FuncData} (h5 : d.n ≤ d.N.length) : FnG P w K mg base 0 a fd d.n (spF P0 K 0 f d.n) (d.N.take d.n) := by
  refine ⟨fun vs H Q h => by rw [h.1, List.length_take]; omega, fun A outer s H args us vs Q _ _ _ _ _ h => ?_⟩
  obtain ⟨_, F, ts, l, t, fin, _, _, _, e, _⟩ := h
  cases e
theorem ok_cts {P0 : List Def} (ok : ∀ (f : Nat) (d : Def), P0[f]? = some d → DefOk P0 K mg d) : ∀ q ∈ P0, ∀ c, q.const = some c → ∃ v u, mg q.name = some u ∧ RelV v u ∧ ∀ F, Dq K F v c := fun q hq c hc => by
  obtain ⟨f, hf⟩ := List.getElem?_of_mem hq
  exact (ok f q hf).cn c hc
theorem fn_all {P0 : List Def} (ok : ∀ (f : Nat) (d : Def), P0[f]? = some d → DefOk P0 K mg d) (blt : ∀ x ∈ bltNames, mg x = none) : ∀ (k f : Nat) (d : Def), P0[f]? = some d → d.const = none →
    ∃ a fd, mg d.name = some (.ref a) ∧ PySem.W.keepIn K (.ref a) = true ∧ DefBind K d fd ∧ FnG P w K mg base k a fd d.n (spF P0 K k f d.n) (d.N.take d.n)
  | 0, f, d, hd, hc => by
    obtain ⟨st, a, fd, h1, h2, h3, h4, h5, h6⟩ := (ok f d hd).ex hc
    exact ⟨a, fd, h2, h1.kp, h3, fn_zero h5⟩
  | k + 1, f, d, hd, hc => by
    obtain ⟨st, a, fd, h1, h2, h3, h4, h5, h6⟩ := (ok f d hd).ex hc
    exact ⟨a, fd, h2, h1.kp, h3, fn_step hd h1 h4 h5 h6 blt (ok_cts ok) (fn_all ok blt k)⟩
end
end PyI

/-! The law's end: the evaluator answers True, so does the law's def. -/
namespace PyI
open PySem PySem.Spec PyProof.Rows L2
theorem dq_ints {K : PySem.W.Frag} {F : Hp} : ∀ ns : List Int, DqAll K F (ns.map V.int) (ns.map PyData.int)
  | [] => .nil
  | n :: r => .cons (.int n) (dq_ints r)
/-- the heap in which at most the script is known -/
structure Scr (P : Program) (w : World) (K : PySem.W.Frag) (h : Heap) (a : Addr) (ns : List Int) (H : Hp) : Prop where
  seq : SqX K H a (ns.map V.int)
  ok : HOk P w H h
  at_ : ∀ b, H b ≠ none → b = a
  out : H a ≠ none → K.lookup a = none
  frz : ∀ b, H b = none ∨ ∃ o xs, H b = some (.frz o (.lst xs))
theorem scr_of {P : Program} {w : World} {K : PySem.W.Frag} {h : Heap} {a : Addr} {vs : List Value} {ns : List Int} (kin : K.In h) (ha : h.get? a = some { cls := .type "list", data := .seq vs.toArray }) (hi : IntsAre vs ns) (hl : ns.length ≤ sizeLine) : ∃ H, Scr P w K h a ns H := by
  have rv := vals_ints hi
  have hz : (ns.map V.int).length ≤ sizeLine := by rw [List.length_map]; exact hl
  cases hk : K.lookup a with
  | some o =>
    have e := kin a o hk
    rw [ha] at e
    cases e
    exact ⟨fun _ => none, .inr ⟨vs, _, hk, rv, hz⟩, (fun b u z => nomatch z), fun b z => absurd rfl z, fun z => absurd rfl z, fun b => .inl rfl⟩
  | none =>
    let ob : Obj := { cls := .type "list", data := .seq vs.toArray }
    have hit : ∀ b, (if b = a then some (HO.frz ob (.lst (ns.map V.int))) else none) ≠ none → b = a := fun b z => by
      by_cases c : b = a
      · exact c
      · rw [if_neg c] at z; exact absurd rfl z
    refine ⟨fun b => if b = a then some (.frz ob (.lst (ns.map V.int))) else none, .inl (.inr ⟨ob, if_pos rfl⟩), fun b u z => ?_, hit, fun _ => hk, fun b => ?_⟩
    · have c : b = a := hit b (by
        intro y
        have z' : (if b = a then some (HO.frz ob (.lst (ns.map V.int))) else none) = some u := z
        rw [y] at z'; cases z')
      subst c
      have z' : (if b = b then some (HO.frz ob (.lst (ns.map V.int))) else none) = some u := z
      rw [if_pos rfl] at z'
      cases z'
      exact ⟨ha, hz, vs, _, rv, ha⟩
    · by_cases c : b = a
      · exact .inr ⟨ob, _, if_pos c⟩
      · exact .inl (if_neg c)
/-- the state the law's def is called in -/
theorem env_of {P : Program} {w : World} {K : PySem.W.Frag} {mg mb : Str → Option Value} {s : Shared} {a : Addr} {vs : List Value} {ns : List Int} {H : Hp} (T : Scr P w K s.heap a ns H) (kin : K.In s.heap) (g1 : s.heap.Ns mainGlobals mg) (g2 : s.heap.Ns builtinsNs mb) (g3 : ∀ x : Str, x ≠ "__name__" → mb x = bootBuiltins x) (g4 : s.heap.NoLimit)
    (gens : s.gens = #[]) (ha : s.heap.get? a = some { cls := .type "list", data := .seq vs.toArray }) : K.In (hidT s.heap H) ∧ (hidT s.heap H).Ns mainGlobals mg ∧ Env0 P w K mg (hidT s.heap H) callerA [] s H := by
  have ns_keep : ∀ {b : Addr} {m : Str → Option Value}, s.heap.Ns b m → (hidT s.heap H).Ns b m := fun {b m} z => by
    obtain ⟨o, es, ep, e, dt, r⟩ := z
    have free : H b = none := by
      cases q : H b with
      | none => rfl
      | some u =>
        cases T.at_ b (by rw [q]; exact fun z => nomatch z)
        rw [ha] at e
        cases e
        cases (show Data.seq vs.toArray _ = Data.dict es ep from dt)
    exact ⟨o, es, ep, hidT_get e free, dt, r⟩
  have kin2 : K.In (hidT s.heap H) := fun b o e => by
    have free : H b = none := by
      cases q : H b with
      | none => rfl
      | some u =>
        cases T.at_ b (by rw [q]; exact fun z => nomatch z)
        rw [T.out (by rw [q]; exact fun z => nomatch z)] at e
        cases e
    exact hidT_get (kin b o e) free
  obtain ⟨mc, c1, c2⟩ := g4
  exact ⟨kin2, ns_keep g1, rfl, ⟨kin2, ns_keep g1, ⟨mb, ns_keep g2, g3⟩, ⟨mc, ns_keep c1, c2⟩⟩, fun b o e => of_hidT e, Nat.le_of_eq (hidT_size _ _), trivial, (fun b hb => nomatch (show b ∈ ([] : List Addr) from hb)), T.ok, .of_eq gens⟩
/-- the law's def answers True -/
theorem law_true {P : Program} {w : World} {K : PySem.W.Frag} {mg mb : Str → Option Value} {P0 : List Def} {k f : Nat} {fa a : Addr} {fd : FuncData} {x : Str} {s : Shared} {vs : List Value} {ns : List Int} {fin : List (Option OT)}
    (kin : K.In s.heap) (g1 : s.heap.Ns mainGlobals mg) (g2 : s.heap.Ns builtinsNs mb) (g3 : ∀ x : Str, x ≠ "__name__" → mb x = bootBuiltins x) (g4 : s.heap.NoLimit) (gens : s.gens = #[])
    (ha : s.heap.get? a = some { cls := .type "list", data := .seq vs.toArray }) (hi : IntsAre vs ns) (hl : ns.length ≤ sizeLine) (hr : Room k callerA)
    (fg : ∀ base : Heap, K.In base → base.Ns mainGlobals mg → FnG P w K mg base k fa fd 1 (spF P0 K k f 1) [x]) (hb : ∀ (s : Shared) (u : Value), BindsTo s fd ⟨[u], []⟩ [(x, u)])
    (hrun : run P0 k f [.leaf (.list (ns.map .int))] = some (.leaf (.bool true), fin)) :
    codeAny (model P w) callerA (.call (.ref fa) ⟨[.ref a], []⟩) (fun r s' => r = .ok (.ret (.bool true)) ∧ OldK s.heap s'.heap ∧ s'.os = s.os ∧ AllBare s'.gens) s := by
  obtain ⟨H, T⟩ := scr_of (P := P) (w := w) kin ha hi hl
  obtain ⟨k2, n2, e0⟩ := env_of T kin g1 g2 g3 g4 gens ha
  refine codeAny_mono ((fg _ k2 n2).run callerA [] s H ⟨[.ref a], []⟩ [.ref a] [.ref a] (fun v _ => v = .bl true) rfl hr e0 (hb s (.ref a)) (.cons rfl .nil) ?_) fun r s' done => ?_
  · refine ⟨rfl, H, [.leaf (.list (ns.map .int))], [], _, fin, Same.refl H, ?_, List.nodup_nil, hrun, fun v F' H' m fo' st ov nd dj er => ?_⟩
    · exact .cons (l := []) (m := []) (.leaf (.lst T.seq (dq_ints ns))) .nil
    · cases ov with | leaf z => cases z; rfl
  · cases r with
    | error e => exact done.elim
    | ok fl =>
      cases fl with
      | ret u =>
        obtain ⟨v, H', os, bare, un, hok, rv, q⟩ := done
        have q : v = .bl true := q
        subst q
        cases (show u = Value.bool true from rv)
        refine ⟨rfl, OldK.of_keep fun b o e => ?_, os, bare⟩
        rcases T.frz b with z | ⟨ob, xs, z⟩
        · exact un.keep b o e z (fun y => nomatch (show b ∈ ([] : List Addr) from y)) (fun y => nomatch y)
        · obtain ⟨u1, _⟩ := T.ok b _ z
          obtain ⟨u2, _⟩ := hok b _ (un.frzs b ob _ z)
          rw [e] at u1
          cases u1
          exact u2
      | next => exact done.elim
      | brk => exact done.elim
      | cont => exact done.elim
/-- the goal that the head leaves -/
theorem walk_run {l : PySem.W.OpenLaw} {n k f : Nat} {q : Program} {loose : List Str} {XP : (Str → Option Value) → Heap → Prop} {YP : World → Heap → Prop} {d : DefRec} {K : Params → PySem.W.Frag} {x : Str} {P0 : List Def}
    (hn : l.most = some n) (hn2 : n ≤ sizeLine) (hdf : d.params.defaults = []) (hr : Room k callerA) (hY : ∀ (w : World) (h : Heap), YP w h → (K w.params).In h)
    (fg : ∀ (w : World) (mg : Str → Option Value) (fa : Addr) (h : Heap), (K w.params).In h → h.Ns mainGlobals mg → mg d.name = some (.ref fa) →
      ∃ fd : FuncData, (∀ (s : Shared) (u : Value), BindsTo s fd ⟨[u], []⟩ [(x, u)]) ∧ ∀ base : Heap, FnG l.prog w (K w.params) mg base k fa fd 1 (spF P0 (K w.params) k f 1) [x])
    (math : ∀ ns : List Int, ns.length ≤ n → (∀ z ∈ ns, Builtin.Int.intBits z ≤ 1048576) → ∃ fin, run P0 k f [.leaf (.list (ns.map .int))] = some (.leaf (.bool true), fin)) :
    PySem.W.WalkO q loose XP YP l.row.toRowW d [] (fun f vs => PySem.call f vs) := by
  refine Att.attach_callB hn hdf fun w s₀ s mg mb fa o pm cd doc a vs ns G Y ho hd hcd hmg hobj hints hlen hbits hg => ?_
  have kin := hY w _ Y
  obtain ⟨fd, hb, hF⟩ := fg w mg fa _ kin G.T.g hmg
  obtain ⟨fin, hm⟩ := math ns hlen hbits
  exact law_true kin G.T.g G.T.b G.T.builtins G.T.nolimit hg hobj hints (Nat.le_trans hlen hn2) hr (fun base _ _ => hF base) hb hm
/-- .. from the table of the defs -/
theorem fg_of {l : PySem.W.OpenLaw} {k f : Nat} {w : World} {K : PySem.W.Frag} {mg : Str → Option Value} {fa : Addr} {P0 : List Def} {d : Def} {x : Str} (hd : P0[f]? = some d) (hcn : d.const = none) (hn : d.n = 1) (hx : d.N.take 1 = [x]) (hk : (1, []) ∈ d.kws) (hp : permOf d 1 [] = [0]) (hmg : mg d.name = some (.ref fa))
    (ok : ∀ (f : Nat) (d : Def), P0[f]? = some d → DefOk P0 K mg d) (blt : ∀ x ∈ bltNames, mg x = none) :
    ∃ fd : FuncData, (∀ (s : Shared) (u : Value), BindsTo s fd ⟨[u], []⟩ [(x, u)]) ∧ ∀ base : Heap, FnG l.prog w K mg base k fa fd 1 (spF P0 K k f 1) [x] := by
  obtain ⟨st, a, fd, h1, h2, h3, h4, h5, h6⟩ := (ok f d hd).ex hcn
  rw [hmg] at h2
  cases h2
  refine ⟨fd, fun s u => ?_, fun base => ?_⟩
  · have q := h3.to s 1 [] [u] [] [u] hk rfl rfl (by rw [hp]; rfl)
    rw [hn, hx] at q
    exact q
  · rw [← hx, ← hn]
    cases k with
    | zero => exact fn_zero h5
    | succ k => exact fn_step hd h1 h4 h5 h6 blt (ok_cts ok) (fn_all ok blt k)
end PyI

/-! Ties of a law's own table to its text. -/
namespace PyI
open PySem PySem.Spec PyProof.Rows L2
def kindB : ScopeKind → Bool
  | .function => true
  | _ => false
def freeB : NameKind → Bool
  | .free => true
  | _ => false
/-- a def's scope, looked at -/
def scB (N : List Str) (n : Nat) (sc : Scope) : Bool := kindB sc.kind && !sc.isCoroutine && !sc.isGenerator && decide N.Nodup && decide (n ≤ N.length) && (N.take n).all (fun x => locB true sc x) && sc.names.all fun y => !freeB y.2
theorem scB_of {N : List Str} {n : Nat} {sc : Scope} (h : scB N n sc = true) : FnScope N (N.take n) sc ∧ n ≤ N.length := by
  unfold scB at h
  simp only [Bool.and_eq_true, Bool.not_eq_true', decide_eq_true_eq, List.all_eq_true] at h
  obtain ⟨⟨⟨⟨⟨⟨h1, h2⟩, h3⟩, h4⟩, h5⟩, h6⟩, h7⟩ := h
  refine ⟨⟨?_, h2, h3, h4, ?_, fun x hx => ?_, fun y hy e => ?_⟩, h5⟩
  · cases hk : sc.kind <;> rw [hk] at h1 <;> first | rfl | cases h1
  · rw [List.length_take, Nat.min_eq_left h5]
  · have q := h6 x hx
    unfold locB at q
    split at q
    · exact .inl (by assumption)
    · exact .inr (by assumption)
    · cases q
  · have q := h7 y hy
    rw [e] at q
    cases q
theorem defOk_by {P0 : List Def} {K : PySem.W.Frag} {mg : Str → Option Value} {d : Def} {st : Stmt} {f : Addr} {od an : Option Addr} {sl : Array (Option Value)} {oc kV dc pm cd ct : Value} (a : mg d.name = some (.ref f))
    (l : K.lookup f = some ⟨oc, od, .func (PySem.W.fnOf d.name d.name (defArgs st) (defBody st) (defScope st) .none kV dc pm an cd ct), sl⟩) (c : PySem.W.codeIn K cd d.name = true) (k : PySem.W.keepIn K (.ref f) = true)
    (b : DefBind K d (PySem.W.fnOf d.name d.name (defArgs st) (defBody st) (defScope st) .none kV dc pm an cd ct)) (s : scB d.N d.n (defScope st) = true) (ck : chkSs P0 d.N (defScope st) d.body (defBody st) = true) (hc : d.const = none := by rfl) : DefOk P0 K mg d :=
  ⟨fun c z => (by rw [hc] at z; cases z), fun _ => ⟨st, f, _, fun_mk l c k, a, b, (scB_of s).1, (scB_of s).2, ck⟩⟩
/-- a whole number of the module -/
theorem defOk_int {P0 : List Def} {K : PySem.W.Frag} {mg : Str → Option Value} {d : Def} {i : Int} {t : Tok} (hc : d.const = some (.int i)) (a : mg d.name = some (.int i t)) : DefOk P0 K mg d :=
  ⟨fun c z => (by rw [hc] at z; cases z; exact ⟨.int i, _, a, ⟨t, rfl⟩, fun F => .int i⟩), fun z => (by rw [hc] at z; cases z)⟩
end PyI

/-! Plain data: what may be shown and compared. -/
namespace PyI
open PySem
/-- plain data, so deep and so big at most -/
structure Pl (n m : Nat) (d : D) : Prop where
  dp : d.depth ≤ n
  bk : d.bulk ≤ m
  ls : d.leavesShort 64 = true
  sh : d.showable = true
  cl : d.canLay0 = true
  ok : PyData.strOk d.shown = true
structure Pls (n m : Nat) (xs : List D) : Prop where
  dp : PyData.depthAll xs ≤ n
  bk : PyData.bulkAll xs ≤ m
  ls : PyData.leavesShortAll 64 xs = true
  sh : PyData.showableAll xs = true
  cl : PyData.canLayAll0 xs = true
  ok : ∀ t ∈ PyData.shownAll xs, PyData.strOk t = true
theorem strOk_app {a b : Str} : PyData.strOk (a ++ b) = (PyData.strOk a && PyData.strOk b) := by
  show (a.cps ++ b.cps).all _ = _
  rw [Array.all_append]
  rfl
theorem strOk_of (s : String) : PyData.strOk (Str.ofString s) = true := by
  rw [Str.ofString_eq_toList]
  unfold PyData.strOk
  simp only [List.all_toArray, List.all_map, List.all_eq_true]
  intro c _
  have h := c.valid
  simp only [Function.comp, decide_eq_true_eq]
  have h2 : c.toNat < 0x110000 := by
    rcases h with h | ⟨_, h⟩
    · exact Nat.lt_of_lt_of_le h (by decide)
    · exact h
  exact h2
theorem strOk_from : ∀ (ts : List Str) (k : Nat) (acc : Str), PyData.strOk acc = true → (∀ t ∈ ts, PyData.strOk t = true) → PyData.strOk (textFrom k acc ts) = true
  | [], _, _, h, _ => h
  | t :: ts, k, acc, h, q => by
    refine strOk_from ts (k + 1) _ ?_ fun u hu => q u (List.mem_cons_of_mem _ hu)
    rw [strOk_app, strOk_app, h, q t List.mem_cons_self, strOk_of]
    rfl
theorem strOk_join : ∀ ts : List Str, (∀ t ∈ ts, PyData.strOk t = true) → PyData.strOk (Str.join ", " ts) = true
  | [], _ => strOk_of ""
  | [x], h => h x List.mem_cons_self
  | x :: y :: r, h => by
    show PyData.strOk (x ++ ", " ++ Str.join ", " (y :: r)) = true
    rw [strOk_app, strOk_app, h x List.mem_cons_self, strOk_join (y :: r) fun t ht => h t (List.mem_cons_of_mem _ ht), strOk_of]
    rfl
theorem Pl.int {i : Int} (h : i.natAbs < 10 ^ 60) : Pl 0 0 (.int i) := by
  refine ⟨Nat.le_refl _, Nat.le_refl _, ?_, ?_, rfl, ?_⟩
  · have q := int_text_length_le10 (a := i) (k := 60) (by decide) h
    unfold PyData.leavesShort
    rw [decide_eq_true_eq]
    show (Str.ofString (toString i)).length ≤ 64
    rw [Str.ofString_eq_toList]
    show ((toString i).toList.map Char.toNat).toArray.size ≤ 64
    simp only [List.size_toArray, List.length_map]
    have : (toString i).toList.length = (toString i).length := rfl
    omega
  · unfold PyData.showable
    rw [decide_eq_true_eq]
    have : i.natAbs < 2 ^ 200 := Nat.lt_of_lt_of_le h (by decide)
    by_cases z : i.natAbs = 0
    · rw [z]; decide
    · exact Nat.lt_of_lt_of_le ((Nat.log2_lt z).mpr this) (by decide)
  · exact strOk_of (toString i)
theorem Pl.none : Pl 0 0 .none := ⟨Nat.le_refl _, Nat.le_refl _, rfl, rfl, rfl, strOk_of "None"⟩
theorem Pl.bool {b : Bool} : Pl 0 0 (.bool b) := by cases b <;> exact ⟨Nat.le_refl _, Nat.le_refl _, rfl, rfl, rfl, strOk_of _⟩
theorem Pl.mono {n m n' m' : Nat} {d : D} (h : Pl n m d) (a : n ≤ n') (b : m ≤ m') : Pl n' m' d := ⟨Nat.le_trans h.dp a, Nat.le_trans h.bk b, h.ls, h.sh, h.cl, h.ok⟩
theorem Pls.mono {n m n' m' : Nat} {d : List D} (h : Pls n m d) (a : n ≤ n') (b : m ≤ m') : Pls n' m' d := ⟨Nat.le_trans h.dp a, Nat.le_trans h.bk b, h.ls, h.sh, h.cl, h.ok⟩
theorem Pls.nil : Pls 0 0 [] := ⟨Nat.le_refl _, Nat.le_refl _, rfl, rfl, rfl, fun _ h => nomatch h⟩
theorem Pls.cons {n m n' m' : Nat} {x : D} {xs : List D} (h : Pl n m x) (q : Pls n' m' xs) : Pls (max n n') (m + 1 + m') (x :: xs) where
  dp := by unfold PyData.depthAll; have := h.dp; have := q.dp; omega
  bk := by unfold PyData.bulkAll; have := h.bk; have := q.bk; omega
  ls := by unfold PyData.leavesShortAll; rw [h.ls, q.ls]; rfl
  sh := by unfold PyData.showableAll; rw [h.sh, q.sh]; rfl
  cl := by unfold PyData.canLayAll0; rw [h.cl, q.cl]; rfl
  ok := fun t ht => by
    unfold PyData.shownAll at ht
    rcases List.mem_cons.mp ht with z | z
    · rw [z]; exact h.ok
    · exact q.ok t z
theorem Pls.all {n m : Nat} : ∀ {xs : List D}, (∀ x ∈ xs, Pl n m x) → Pls n (xs.length * (m + 1)) xs
  | [], _ => Pls.nil.mono (Nat.zero_le _) (by simp)
  | x :: xs, h => by
    refine (Pls.cons (h x List.mem_cons_self) (Pls.all fun y hy => h y (List.mem_cons_of_mem _ hy))).mono (Nat.le_of_eq (Nat.max_self n)) ?_
    rw [List.length_cons, Nat.add_mul]
    omega
theorem Pl.list {n m : Nat} {xs : List D} (h : Pls n m xs) : Pl (n + 1) m (.list xs) where
  dp := by unfold PyData.depth; have := h.dp; omega
  bk := by unfold PyData.bulk; exact h.bk
  ls := by unfold PyData.leavesShort; exact h.ls
  sh := by unfold PyData.showable; exact h.sh
  cl := by unfold PyData.canLay0; exact h.cl
  ok := by
    unfold PyData.shown listText
    rw [strOk_app, strOk_from _ _ _ (strOk_of "[") h.ok, strOk_of]
    rfl
theorem Pl.tuple {n m : Nat} {xs : List D} (h : Pls n m xs) : Pl (n + 1) m (.tuple xs) where
  dp := by unfold PyData.depth; have := h.dp; omega
  bk := by unfold PyData.bulk; exact h.bk
  ls := by unfold PyData.leavesShort; exact h.ls
  sh := by unfold PyData.showable; exact h.sh
  cl := by unfold PyData.canLay0; exact h.cl
  ok := by
    unfold PyData.shown tupleText
    rw [strOk_app, strOk_app, strOk_join _ h.ok, strOk_of, strOk_of]
    rfl
theorem Pl.shaped {n m : Nat} {d : D} (h : Pl n m d) (hn : n ≤ 64) : SeqAt.shaped d = true := by
  unfold SeqAt.shaped
  rw [h.cl, decide_eq_true (Nat.le_trans h.dp hn)]
  rfl
theorem Pl.fits {n m : Nat} {d : D} (h : Pl n m d) (hn : n ≤ 64) (hm : m ≤ 100000) : PyI.fits d = true := by
  have b := PyData.shown_le_bulk 64 (by decide) d h.ls
  have q := h.bk
  have e : d.shown.length ≤ sizeLine := by
    have z : (64 + 2) * d.bulk ≤ 66 * 100000 := Nat.mul_le_mul_left 66 (Nat.le_trans q hm)
    refine Nat.le_trans b (Nat.le_trans (Nat.add_le_add_right z 64) (by decide))
  unfold PyI.fits
  rw [h.sh, decide_eq_true e, decide_eq_true (Nat.le_trans h.dp hn), PyData.hasDict_of_canLay d h.cl]
  rfl
/-- the text of plain data -/
theorem Pl.text {n m : Nat} {d : D} (h : Pl n m d) : SeqAt.shaped (.str d.shown) = true := by
  unfold SeqAt.shaped
  have e : (PyData.str d.shown).canLay0 = PyData.strOk d.shown := by unfold PyData.canLay0; rfl
  rw [e, h.ok]
  rfl
theorem eqv_self {n m : Nat} {d : D} (h : Pl n m d) : PyData.eqv d d = true := SeqAt.eqv_refl d h.cl
theorem eqv_str {x : Str} : PyData.eqv (.str x) (.str x) = true := by simp [PyData.eqv]
theorem eqv_int {i j : Int} : PyData.eqv (.int i) (.int j) = decide (i = j) := by
  unfold PyData.eqv
  by_cases c : i = j
  · subst c; simp
  · simp [c]
end PyI

/-! Proofs about runs of the evaluator, from the left to the right. -/
namespace PyI
open PySem
structure WE (Γ : Ctx) (e : E) (env : Env) (Q : R → Env → Prop) : Prop where
  ex : ∃ r env', ev Γ e env = some (r, env') ∧ Q r env'
structure WEs (Γ : Ctx) (es : Es) (env : Env) (Q : List R → Env → Prop) : Prop where
  ex : ∃ rs env', evs Γ es env = some (rs, env') ∧ Q rs env'
structure WO (o : Op) (rs : List R) (env : Env) (Q : R → Env → Prop) : Prop where
  ex : ∃ r env', opSem o rs env = some (r, env') ∧ Q r env'
structure WM (m : Mt) (r : R) (rs : List R) (env : Env) (Q : R → Env → Prop) : Prop where
  ex : ∃ r' env', mtSem m r rs env = some (r', env') ∧ Q r' env'
structure WB (Γ : Ctx) (e : E) (env : Env) (Q : Bool → Env → Prop) : Prop where
  ex : ∃ b env', boolOf (ev Γ e env) = some (b, env') ∧ Q b env'
structure WC (Γ : Ctx) (e : C) (env : Env) (Q : Bool → Env → Prop) : Prop where
  ex : ∃ b env', evC Γ e env = some (b, env') ∧ Q b env'
structure WP (Γ : Ctx) (e : C) (env : Env) (Q : Option Int → Env → Prop) : Prop where
  ex : ∃ b env', evP Γ e env = some (b, env') ∧ Q b env'
structure WT (Γ : Ctx) (t : T) (x : OT) (env : Env) (Q : Env → Prop) : Prop where
  ex : ∃ env', setT Γ t x env = some env' ∧ Q env'
structure WTs (Γ : Ctx) (t : Ts) (x : List OT) (env : Env) (Q : Env → Prop) : Prop where
  ex : ∃ env', setTs Γ t x env = some env' ∧ Q env'
structure WI (Γ : Ctx) (it : It) (env : Env) (Q : Src → Nat → Env → Prop) : Prop where
  ex : ∃ s n env', evIt Γ it env = some (s, n, env') ∧ Q s n env'
structure WS (Γ : Ctx) (s : S) (env : Env) (Q : Out → Env → Prop) : Prop where
  ex : ∃ o env', exec Γ s env = some (o, env') ∧ Q o env'
structure WSs (Γ : Ctx) (s : Ss) (env : Env) (Q : Out → Env → Prop) : Prop where
  ex : ∃ o env', execs Γ s env = some (o, env') ∧ Q o env'
structure WF (f : List OT → Option (OT × List (Option OT))) (ts : List OT) (Q : OT → List (Option OT) → Prop) : Prop where
  ex : ∃ t fin, f ts = some (t, fin) ∧ Q t fin
structure WCl (Γ : Ctx) (f : Nat) (rs : List R) (env : Env) (Q : R → Env → Prop) : Prop where
  ex : ∃ r env', callSem Γ f rs env = some (r, env') ∧ Q r env'
section
variable {Γ : Ctx} {env : Env} {Q : R → Env → Prop}
theorem WF.mono {f : List OT → Option (OT × List (Option OT))} {ts : List OT} {Q Q' : OT → List (Option OT) → Prop} (h : WF f ts Q) (q : ∀ t fin, Q t fin → Q' t fin) : WF f ts Q' := by
  obtain ⟨t, fin, h1, h2⟩ := h
  exact ⟨t, fin, h1, q t fin h2⟩
theorem WE.mono {e : E} {Q' : R → Env → Prop} (h : WE Γ e env Q) (q : ∀ r e', Q r e' → Q' r e') : WE Γ e env Q' := by
  obtain ⟨r, e', h1, h2⟩ := h
  exact ⟨r, e', h1, q r e' h2⟩
theorem WSs.mono {s : Ss} {Q Q' : Out → Env → Prop} (h : WSs Γ s env Q) (q : ∀ r e', Q r e' → Q' r e') : WSs Γ s env Q' := by
  obtain ⟨r, e', h1, h2⟩ := h
  exact ⟨r, e', h1, q r e' h2⟩
theorem WS.mono {s : S} {Q Q' : Out → Env → Prop} (h : WS Γ s env Q) (q : ∀ r e', Q r e' → Q' r e') : WS Γ s env Q' := by
  obtain ⟨r, e', h1, h2⟩ := h
  exact ⟨r, e', h1, q r e' h2⟩
/-! expressions -/
theorem we_var {i : Nat} {d : D} (h : env[i]? = some (some (.leaf d))) (q : Q (.own (.leaf d)) env) : WE Γ (.var i) env Q := ⟨_, _, by unfold ev; rw [h], q⟩
theorem we_varl {i : Nat} {g : Option (List L2.Key)} {ts : List OT} (h : env[i]? = some (some (.nod g ts))) (q : Q (.al i []) env) : WE Γ (.var i) env Q := ⟨_, _, by unfold ev; rw [h], q⟩
theorem we_c {d : D} (q : Q (.own (.leaf d)) env) : WE Γ (.c d) env Q := ⟨_, _, by unfold ev; rfl, q⟩
theorem we_op {o : Op} {as : Es} (h : WEs Γ as env fun rs e => WO o rs e Q) : WE Γ (.op o as) env Q := by
  obtain ⟨rs, e1, h1, r, e2, h2, q⟩ := h
  exact ⟨r, e2, by unfold ev; rw [h1]; exact h2, q⟩
theorem wes_nil {Q : List R → Env → Prop} (q : Q [] env) : WEs Γ .nil env Q := ⟨_, _, by unfold evs; rfl, q⟩
theorem wes_cons {a : E} {as : Es} {Q : List R → Env → Prop} (h : WE Γ a env fun r e => (r.deep && !as.quiet) = false ∧ WEs Γ as e fun rs e' => Q (r :: rs) e') : WEs Γ (.cons a as) env Q := by
  obtain ⟨r, e1, h1, hd, rs, e2, h2, q⟩ := h
  exact ⟨r :: rs, e2, by unfold evs; rw [h1]; simp only; rw [hd]; simp only [Bool.false_eq_true, if_false]; rw [h2], q⟩
theorem wb_of {e : E} {Q : Bool → Env → Prop} (h : WE Γ e env fun r e' => ∃ b, r = .own (.leaf (.bool b)) ∧ Q b e') : WB Γ e env Q := by
  obtain ⟨r, e1, h1, b, rfl, q⟩ := h
  exact ⟨b, e1, by rw [h1]; rfl, q⟩
theorem we_and {a b : E} (h : WB Γ a env fun c e => if c = true then WE Γ b e Q else Q (.own (.leaf (.bool false))) e) : WE Γ (.and a b) env Q := by
  obtain ⟨c, e1, h1, q⟩ := h
  cases c with
  | true =>
    rw [if_pos rfl] at q
    obtain ⟨r, e2, h2, q⟩ := q
    exact ⟨r, e2, by unfold ev; rw [h1]; exact h2, q⟩
  | false => exact ⟨_, e1, by unfold ev; rw [h1], q⟩
theorem we_or {a b : E} (h : WB Γ a env fun c e => if c = true then Q (.own (.leaf (.bool true))) e else WE Γ b e Q) : WE Γ (.or a b) env Q := by
  obtain ⟨c, e1, h1, q⟩ := h
  cases c with
  | false =>
    rw [if_neg Bool.false_ne_true] at q
    obtain ⟨r, e2, h2, q⟩ := q
    exact ⟨r, e2, by unfold ev; rw [h1]; exact h2, q⟩
  | true => exact ⟨_, e1, by unfold ev; rw [h1], q⟩
theorem we_not {a : E} (h : WB Γ a env fun c e => Q (.own (.leaf (.bool (!c)))) e) : WE Γ (.not a) env Q := by
  obtain ⟨c, e1, h1, q⟩ := h
  exact ⟨_, e1, by unfold ev; rw [h1], q⟩
theorem we_ite {c a b : E} (h : WB Γ c env fun k e => if k = true then WE Γ a e Q else WE Γ b e Q) : WE Γ (.ite c a b) env Q := by
  obtain ⟨k, e1, h1, q⟩ := h
  cases k with
  | true =>
    rw [if_pos rfl] at q
    obtain ⟨r, e2, h2, q⟩ := q
    exact ⟨r, e2, by unfold ev; rw [h1]; exact h2, q⟩
  | false =>
    rw [if_neg Bool.false_ne_true] at q
    obtain ⟨r, e2, h2, q⟩ := q
    exact ⟨r, e2, by unfold ev; rw [h1]; exact h2, q⟩
theorem wp_non {Q : Option Int → Env → Prop} (q : Q none env) : WP Γ .non env Q := ⟨_, _, by unfold evP; rfl, q⟩
theorem wp_some {e : E} {Q : Option Int → Env → Prop} (h : WE Γ e env fun r e' => ∃ i, r = .own (.leaf (.int i)) ∧ Q (some i) e') : WP Γ (.some e) env Q := by
  obtain ⟨r, e1, h1, i, rfl, q⟩ := h
  exact ⟨_, e1, by unfold evP; rw [h1], q⟩
theorem we_sl {a : E} {lo hi : C} (h : WE Γ a env fun r e => r.deep = false ∧ WP Γ lo e fun l e2 => WP Γ hi e2 fun u e3 => ∃ r' e4, slSem r l u e3 = some (r', e4) ∧ Q r' e4) : WE Γ (.sl a lo hi) env Q := by
  obtain ⟨r, e1, h1, hd, l, e2, h2, u, e3, h3, r', e4, h4, q⟩ := h
  exact ⟨r', e4, by unfold ev; rw [h1]; simp only; rw [hd]; simp only [Bool.false_eq_true, if_false]; rw [h2]; simp only; rw [h3]; exact h4, q⟩
theorem we_meth {m : Mt} {o : E} {as : Es} (h : WE Γ o env fun r e => (isListR r e && !(r.deep && !as.quiet)) = true ∧ WEs Γ as e fun rs e2 => WM m r rs e2 Q) : WE Γ (.meth m o as) env Q := by
  obtain ⟨r, e1, h1, hb, rs, e2, h2, r', e3, h3, q⟩ := h
  exact ⟨r', e3, by unfold ev; rw [h1]; simp only; rw [hb]; simp only [if_true]; rw [h2]; exact h3, q⟩
theorem we_call {f : Nat} {as kw : Es} {perm : List Nat} (h : WEs Γ as env fun rs e => anyDeep rs = false ∧ WEs Γ kw e fun ks e2 => anyDeep ks = false ∧ ∃ qs, pick (rs ++ ks) perm = some qs ∧ nodupB perm = true ∧ WCl Γ f qs e2 Q) : WE Γ (.call f as kw perm) env Q := by
  obtain ⟨rs, e1, h1, d1, ks, e2, h2, d2, qs, h3, nd, r, e3, h4, q⟩ := h
  refine ⟨r, e3, ?_, q⟩
  unfold ev
  rw [h1]; simp only; rw [d1]; simp only [Bool.false_eq_true, if_false]; rw [h2]; simp only; rw [d2]; simp only [Bool.false_eq_true, if_false]; rw [h3]; simp only; rw [nd]; simp only [if_true]; exact h4
theorem wcl {f : Nat} {rs ps : List R} {env1 : Env} {ts : List OT} (h1 : prepArgs (Γ.keep f) 0 rs env = some (ps, env1)) (h2 : nodupB (lent ps) = true) (h3 : argTrees env1 ps = some ts) (h : WF (Γ.fn f) ts fun t fin => fin.length = ts.length ∧ Q (.own t) (giveBack ps fin (dropLent ps env1))) : WCl Γ f rs env Q := by
  obtain ⟨t, fin, h4, hl, q⟩ := h
  refine ⟨_, _, ?_, q⟩
  unfold callSem
  rw [h1]; simp only; rw [h2]; simp only [if_true]; rw [h3]; simp only; rw [h4]; simp only; rw [if_pos hl]
/-- arguments of one's own alone -/
def ownTrees : List R → Option (List OT)
  | [] => some []
  | .own t :: rs => (ownTrees rs).map (t :: ·)
  | .al _ _ :: _ => none
theorem own_all {keep : Nat → Bool} {env : Env} : ∀ {rs : List R} {ts : List OT} (j : Nat), ownTrees rs = some ts → prepArgs keep j rs env = some (rs, env) ∧ lent rs = [] ∧ argTrees env rs = some ts ∧ (∀ e, dropLent rs e = e) ∧ ∀ fin e, giveBack rs fin e = e
  | [], ts, j, h => by cases h; exact ⟨rfl, rfl, rfl, fun _ => rfl, fun fin e => by cases fin <;> rfl⟩
  | .own t :: rs, ts, j, h => by
    unfold ownTrees at h
    obtain ⟨us, h1, h2⟩ := Option.map_eq_some_iff.mp h
    cases h2
    obtain ⟨q1, q2, q3, q4, q5⟩ := own_all (keep := keep) (env := env) (j + 1) h1
    refine ⟨by unfold prepArgs; rw [q1], q2, ?_, q4, fun fin e => ?_⟩
    · unfold argTrees
      show (argTrees env rs).map (t :: ·) = _
      rw [q3]; rfl
    · cases fin with
      | nil => rfl
      | cons x fin => exact q5 fin e
  | .al _ _ :: _, ts, j, h => by cases h
theorem wcl_own {f : Nat} {rs : List R} {ts : List OT} (h : ownTrees rs = some ts) (q : WF (Γ.fn f) ts fun t fin => fin.length = ts.length ∧ Q (.own t) env) : WCl Γ f rs env Q := by
  obtain ⟨q1, q2, q3, q4, q5⟩ := own_all (keep := Γ.keep f) (env := env) 0 h
  refine wcl q1 (by rw [q2]; rfl) q3 (q.mono fun t fin ⟨h1, h2⟩ => ⟨h1, ?_⟩)
  rw [q4, q5]
  exact h2
/-- a variable's list first, lent -/
theorem wcl_lent {f i : Nat} {p : OT} {rs : List R} {ts : List OT} (hk : Γ.keep f 0 = true) (hp : env[i]? = some (some p)) (h : ownTrees rs = some ts) (q : WF (Γ.fn f) (p :: ts) fun t fin => ∃ x fs, fin = x :: fs ∧ fs.length = ts.length ∧ Q (.own t) (env.set i x)) : WCl Γ f (.al i [] :: rs) env Q := by
  obtain ⟨q1, q2, q3, q4, q5⟩ := own_all (keep := Γ.keep f) (env := env) 1 h
  refine wcl (ps := .al i [] :: rs) (env1 := env) (ts := p :: ts) ?_ ?_ ?_ (q.mono fun t fin ⟨x, fs, h1, h2, h3⟩ => ⟨by rw [h1, List.length_cons, List.length_cons, h2], ?_⟩)
  · unfold prepArgs
    rw [if_pos hk, q1]
  · show nodupB (i :: lent rs) = true
    rw [q2]
    rfl
  · unfold argTrees
    have : R.tree env (.al i []) = some p := by
      show Env.look env i [] = some p
      unfold Env.look
      rw [hp]
      show OT.at? p [] = some p
      cases p <;> rfl
    rw [this]
    simp only
    rw [q3]; rfl
  · rw [h1]
    show Q (.own t) (giveBack rs fs ((dropLent rs (env.set i none)).set i x))
    rw [q4, q5, List.set_set]
    exact h3
theorem we_pick {c : Bool} {a b : E} (d : D) (ha : c = true → WE Γ a env fun r e => r = .own (.leaf d) ∧ e = env) (hb : c = false → WE Γ b env fun r e => r = .own (.leaf d) ∧ e = env) (q : Q (.own (.leaf d)) env) : if c = true then WE Γ a env Q else WE Γ b env Q := by
  cases c with
  | true =>
    rw [if_pos rfl]
    exact (ha rfl).mono fun r e ⟨h1, h2⟩ => by rw [h1, h2]; exact q
  | false =>
    rw [if_neg Bool.false_ne_true]
    exact (hb rfl).mono fun r e ⟨h1, h2⟩ => by rw [h1, h2]; exact q
/-! operators -/
theorem wo_flat {o : Op} {rs : List R} {ds : List D} {d : D} (hf : isFlat o = true) (hd : dats env rs = some ds) (h : flatSem o ds = some d) (q : Q (.own (.leaf d)) env) : WO o rs env Q :=
  ⟨_, _, by unfold opSem; rw [hf, if_pos rfl, hd]; simp only; rw [h]; rfl, q⟩
def plainOp : Op → Bool
  | .sub | .neg | .lt | .le | .gt | .ge | .isN | .notN | .len | .abs | .int | .min | .max => true
  | _ => false
theorem wo_plain {o : Op} {rs : List R} {ds : List D} {d : D} (hp : plainOp o = true) (hd : dats env rs = some ds) (h : flatSem o ds = some d) (q : Q (.own (.leaf d)) env) : WO o rs env Q :=
  wo_flat (by cases o <;> first | rfl | cases hp) hd h q
theorem wo_addi {a b : R} {i j : Int} (h1 : a.sh env = some (.int i)) (h2 : b.sh env = some (.int j)) (q : Q (.own (.leaf (.int (i + j)))) env) : WO .add [a, b] env Q := ⟨_, _, by unfold opSem; simp [isFlat, h1, h2], q⟩
theorem wo_addl {a b : R} {xs ys : List D} (h1 : a.sh env = some (.list xs)) (h2 : b.sh env = some (.list ys)) (h : xs.length + ys.length ≤ sizeLine) (q : Q (.own (ofList (xs ++ ys))) env) : WO .add [a, b] env Q := ⟨_, _, by unfold opSem; simp [isFlat, h1, h2, h], q⟩
theorem wo_addt {a b : R} {xs ys : List D} (h1 : a.sh env = some (.tuple xs)) (h2 : b.sh env = some (.tuple ys)) (h : xs.length + ys.length ≤ sizeLine) (q : Q (.own (.leaf (.tuple (xs ++ ys)))) env) : WO .add [a, b] env Q := ⟨_, _, by unfold opSem; simp [isFlat, h1, h2, h], q⟩
theorem wo_mul {a b : R} {i j : Int} (h1 : a.dat env = some (.int i)) (h2 : b.dat env = some (.int j)) (h : (-(2 ^ 64) < i ∧ i < 2 ^ 64) ∨ (-(2 ^ 64) < j ∧ j < 2 ^ 64)) (q : Q (.own (.leaf (.int (i * j)))) env) : WO .mul [a, b] env Q :=
  wo_flat (ds := [.int i, .int j]) rfl (by unfold dats; rw [h1]; simp only; unfold dats; rw [h2]; rfl) (by
    show (if intMulOk i j = true then some (PyData.int (i * j)) else none) = _
    rw [if_pos]
    unfold intMulOk
    simp only [Bool.or_eq_true, Bool.and_eq_true, decide_eq_true_eq]
    exact h) q
theorem wo_mod {a b : R} {i j : Int} (h1 : a.dat env = some (.int i)) (h2 : b.dat env = some (.int j)) (h : 0 < j) (q : Q (.own (.leaf (.int (i % j)))) env) : WO .mod [a, b] env Q :=
  wo_flat (ds := [.int i, .int j]) rfl (by unfold dats; rw [h1]; simp only; unfold dats; rw [h2]; rfl) (by
    show (if j ≠ 0 then some (PyData.int (i.fmod j)) else none) = _
    rw [if_pos (by omega), Int.fmod_eq_emod_of_nonneg _ (by omega)]) q
theorem wo_fdiv {a b : R} {i j : Int} (h1 : a.dat env = some (.int i)) (h2 : b.dat env = some (.int j)) (h : 0 < j ∧ j < 1073741824) (q : Q (.own (.leaf (.int (i / j)))) env) : WO .fdiv [a, b] env Q :=
  wo_flat (ds := [.int i, .int j]) rfl (by unfold dats; rw [h1]; simp only; unfold dats; rw [h2]; rfl) (by
    show (if j ≠ 0 ∧ j.natAbs < 1073741824 then some (PyData.int (i.fdiv j)) else none) = _
    rw [if_pos (by omega), Int.fdiv_eq_ediv_of_nonneg _ (by omega)]) q
theorem wo_pow {a b : R} {i j : Int} (h1 : a.dat env = some (.int i)) (h2 : b.dat env = some (.int j)) (h : 0 ≤ j ∧ j ≤ 1000000 ∧ i.natAbs < 2 ^ 64) (q : Q (.own (.leaf (.int (i ^ j.toNat)))) env) : WO .pow [a, b] env Q :=
  wo_flat (ds := [.int i, .int j]) rfl (by unfold dats; rw [h1]; simp only; unfold dats; rw [h2]; rfl) (by
    show (if 0 ≤ j ∧ j ≤ 1000000 ∧ i.natAbs < 2 ^ 64 then some (PyData.int (i ^ j.toNat)) else none) = _
    rw [if_pos h]) q
theorem dats1 {a : R} {d : D} (h : a.dat env = some d) : dats env [a] = some [d] := by unfold dats; rw [h]; rfl
theorem dats22 {a b : R} {d e : D} (h : a.dat env = some d) (h2 : b.dat env = some e) : dats env [a, b] = some [d, e] := by unfold dats; rw [h]; simp only; unfold dats; rw [h2]; rfl
theorem wo_eq {a b : R} {d e : D} (h1 : a.dat env = some d) (h2 : b.dat env = some e) (s1 : SeqAt.shaped d = true) (s2 : SeqAt.shaped e = true) (q : Q (.own (.leaf (.bool (PyData.eqv d e)))) env) : WO .eq [a, b] env Q :=
  wo_flat rfl (dats22 h1 h2) (by
    show (if (SeqAt.shaped d && SeqAt.shaped e) = true then some (PyData.bool (PyData.eqv d e)) else none) = _
    rw [s1, s2]; rfl) q
theorem wo_ne {a b : R} {d e : D} (h1 : a.dat env = some d) (h2 : b.dat env = some e) (s1 : SeqAt.shaped d = true) (s2 : SeqAt.shaped e = true) (q : Q (.own (.leaf (.bool (!PyData.eqv d e)))) env) : WO .ne [a, b] env Q :=
  wo_flat rfl (dats22 h1 h2) (by
    show (if (SeqAt.shaped d && SeqAt.shaped e) = true then some (PyData.bool (!PyData.eqv d e)) else none) = _
    rw [s1, s2]; rfl) q
theorem shaped_int {i : Int} : SeqAt.shaped (.int i) = true := rfl
theorem wo_eqi {a b : R} {i j : Int} (h1 : a.dat env = some (.int i)) (h2 : b.dat env = some (.int j)) (q : Q (.own (.leaf (.bool (decide (i = j))))) env) : WO .eq [a, b] env Q :=
  wo_eq h1 h2 shaped_int shaped_int (by rw [eqv_int]; exact q)
theorem wo_nei {a b : R} {i j : Int} (h1 : a.dat env = some (.int i)) (h2 : b.dat env = some (.int j)) (q : Q (.own (.leaf (.bool (!decide (i = j))))) env) : WO .ne [a, b] env Q :=
  wo_ne h1 h2 shaped_int shaped_int (by rw [eqv_int]; exact q)
theorem wo_repr {a : R} {d : D} (h1 : a.dat env = some d) (h : fits d = true) (q : Q (.own (.leaf (.str d.shown))) env) : WO .repr [a] env Q :=
  wo_flat rfl (dats1 h1) (by
    show (if fits d = true then some (PyData.str d.shown) else none) = _
    rw [if_pos h]) q
theorem wo_sum {a : R} {xs : List D} {ns : List Int} (h1 : a.dat env = some (.list xs)) (h : ints? xs = some ns) (q : Q (.own (.leaf (.int ns.sum))) env) : WO .sum [a] env Q :=
  wo_flat rfl (dats1 h1) (by
    show (ints? xs).map (fun ns => PyData.int ns.sum) = _
    rw [h]; rfl) q
theorem wo_tup {rs : List R} {ts : List OT} {ds : List D} {env' : Env} (h : takes rs env = some (ts, env')) (hd : OT.dats ts = ds) (q : Q (.own (.leaf (.tuple ds))) env') : WO .tup rs env Q := ⟨_, _, by unfold opSem; simp [isFlat, h, hd], q⟩
theorem wo_tup2 {a b : R} {x y : D} {e1 e2 : Env} (h1 : a.take env = some (.leaf x, e1)) (h2 : b.take e1 = some (.leaf y, e2)) (q : Q (.own (.leaf (.tuple [x, y]))) e2) : WO .tup [a, b] env Q :=
  wo_tup (ts := [.leaf x, .leaf y]) (by unfold takes; rw [h1]; simp only; unfold takes; rw [h2]; rfl) rfl q
theorem wo_tup3 {a b c : R} {x y z : D} {e1 e2 e3 : Env} (h1 : a.take env = some (.leaf x, e1)) (h2 : b.take e1 = some (.leaf y, e2)) (h3 : c.take e2 = some (.leaf z, e3)) (q : Q (.own (.leaf (.tuple [x, y, z]))) e3) : WO .tup [a, b, c] env Q :=
  wo_tup (ts := [.leaf x, .leaf y, .leaf z]) (by unfold takes; rw [h1]; simp only; unfold takes; rw [h2]; simp only; unfold takes; rw [h3]; rfl) rfl q
theorem wo_lst {rs : List R} {ts : List OT} {env' : Env} (h : takes rs env = some (ts, env')) (q : Q (.own (.lst ts)) env') : WO .lst rs env Q := ⟨_, _, by unfold opSem; simp [isFlat, h], q⟩
theorem wo_nil (q : Q (.own (.lst [])) env) : WO .nil [] env Q := ⟨_, _, by unfold opSem; rfl, q⟩
theorem wo_tuple {a : R} {xs : List D} (h : a.sh env = some (.list xs)) (q : Q (.own (.leaf (.tuple xs))) env) : WO .tuple [a] env Q := ⟨_, _, by unfold opSem; simp [isFlat, h], q⟩
theorem wo_tuplet {a : R} {xs : List D} (h : a.sh env = some (.tuple xs)) (q : Q (.own (.leaf (.tuple xs))) env) : WO .tuple [a] env Q := ⟨_, _, by unfold opSem; simp [isFlat, h], q⟩
theorem wo_list {a : R} {xs : List D} (h : a.sh env = some (.list xs)) (q : Q (.own (ofList xs)) env) : WO .list [a] env Q := ⟨_, _, by unfold opSem; simp [isFlat, h], q⟩
theorem wo_rev {a : R} {xs : List D} (h : a.sh env = some (.list xs)) (q : Q (.own (ofList xs.reverse)) env) : WO .rev [a] env Q := ⟨_, _, by unfold opSem; simp [isFlat, h], q⟩
/-! methods -/
theorem wm_append {v : Nat} {p : List Nat} {b : R} {t : OT} {env1 e : Env} {ts : List OT} (h1 : b.take env = some (t, env1)) (h2 : env1.look v p = some (.lst ts)) (h3 : ts.length < sizeLine) (h4 : env1.put v p (.lst (ts ++ [t])) = some e) (q : Q (.own (.leaf .none)) e) : WM .append (.al v p) [b] env Q := ⟨_, _, by unfold mtSem; simp [h1, h2, h3, h4], q⟩
theorem wm_extend {v : Nat} {p : List Nat} {b : R} {ds : List D} {e : Env} {ts : List OT} (h1 : b.sh env = some (.list ds)) (h2 : env.look v p = some (.lst ts)) (h3 : ts.length + ds.length ≤ sizeLine) (h4 : env.put v p (.lst (ts ++ ds.map .leaf)) = some e) (q : Q (.own (.leaf .none)) e) : WM .extend (.al v p) [b] env Q := ⟨_, _, by unfold mtSem; simp [h1, h2, h3, h4], q⟩
theorem wm_pop {v : Nat} {p : List Nat} {d : D} {e : Env} {ts : List OT} (h2 : env.look v p = some (.lst ts)) (h3 : ts[ts.length - 1]? = some (.leaf d)) (h4 : env.put v p (.lst ts.dropLast) = some e) (q : Q (.own (.leaf d)) e) : WM .pop (.al v p) [] env Q := ⟨_, _, by unfold mtSem; simp [h2, h3, h4], q⟩
/-! targets -/
theorem wt_nm {i : Nat} {x : OT} {Q : Env → Prop} (h : Nat.blt i env.length = true) (q : Q (env.set i (some x))) : WT Γ (.nm i) x env Q := ⟨_, by unfold setT; rw [if_pos (Nat.blt_eq.mp h)], q⟩
theorem wt_tup {ts : Ts} {ds : List D} {Q : Env → Prop} (h : WTs Γ ts (ds.map .leaf) env Q) : WT Γ (.tup ts) (.leaf (.tuple ds)) env Q := by
  obtain ⟨e, h, q⟩ := h
  exact ⟨e, by unfold setT; exact h, q⟩
theorem wts_nil {Q : Env → Prop} (q : Q env) : WTs Γ .nil [] env Q := ⟨_, by unfold setTs; rfl, q⟩
theorem wts_cons {t : T} {ts : Ts} {x : OT} {xs : List OT} {Q : Env → Prop} (h : WT Γ t x env fun e => WTs Γ ts xs e Q) : WTs Γ (.cons t ts) (x :: xs) env Q := by
  obtain ⟨e1, h1, e2, h2, q⟩ := h
  exact ⟨e2, by unfold setTs; rw [h1]; exact h2, q⟩
/-! statements -/
theorem wss_nil {Q : Out → Env → Prop} (q : Q .nx env) : WSs Γ .nil env Q := ⟨_, _, by unfold execs; rfl, q⟩
theorem wss_cons {s : S} {ss : Ss} {Q : Out → Env → Prop} (h : WS Γ s env fun o e => match o with | .nx => WSs Γ ss e Q | o => Q o e) : WSs Γ (.cons s ss) env Q := by
  obtain ⟨o, e1, h1, h2⟩ := h
  cases o with
  | nx =>
    obtain ⟨o, e2, h2, q⟩ := h2
    exact ⟨o, e2, by unfold execs; rw [h1]; exact h2, q⟩
  | bk => exact ⟨_, e1, by unfold execs; rw [h1], h2⟩
  | ct => exact ⟨_, e1, by unfold execs; rw [h1], h2⟩
  | ret t => exact ⟨_, e1, by unfold execs; rw [h1], h2⟩
theorem ws_asg {i : Nat} {e : E} {Q : Out → Env → Prop} (h : WE Γ e env fun r e1 => ∃ t e2, r.take e1 = some (t, e2) ∧ Nat.blt i e2.length = true ∧ Q .nx (e2.set i (some t))) : WS Γ (.asg i e) env Q := by
  obtain ⟨r, e1, h1, t, e2, h2, h3, q⟩ := h
  exact ⟨_, _, by unfold exec; rw [h1]; simp only; rw [h2]; simp only; rw [if_pos (Nat.blt_eq.mp h3)], q⟩
theorem ws_par {ts : Ts} {es : Es} {Q : Out → Env → Prop} (h : WEs Γ es env fun rs e1 => ∃ xs e2, takes rs e1 = some (xs, e2) ∧ WTs Γ ts xs e2 (Q .nx)) : WS Γ (.par ts es) env Q := by
  obtain ⟨rs, e1, h1, xs, e2, h2, e3, h3, q⟩ := h
  exact ⟨_, _, by unfold exec; rw [h1]; simp only; rw [h2]; simp only; rw [h3]; rfl, q⟩
theorem ws_unp {t : Ts} {e : E} {Q : Out → Env → Prop} (h : WE Γ e env fun r e1 => ∃ x e2, r.take e1 = some (x, e2) ∧ WT Γ (.tup t) x e2 (Q .nx)) : WS Γ (.unp t e) env Q := by
  obtain ⟨r, e1, h1, x, e2, h2, e3, h3, q⟩ := h
  exact ⟨_, _, by unfold exec; rw [h1]; simp only; rw [h2]; simp only; rw [h3]; rfl, q⟩
theorem ws_put {o i e : E} {Q : Out → Env → Prop} (h : WE Γ e env fun r e1 => ∃ x e2, r.take e1 = some (x, e2) ∧ WT Γ (.sub o i) x e2 (Q .nx)) : WS Γ (.put o i e) env Q := by
  obtain ⟨r, e1, h1, x, e2, h2, e3, h3, q⟩ := h
  exact ⟨_, _, by unfold exec; rw [h1]; simp only; rw [h2]; simp only; rw [h3]; rfl, q⟩
theorem ws_ex {e : E} {Q : Out → Env → Prop} (h : WE Γ e env fun _ e1 => Q .nx e1) : WS Γ (.ex e) env Q := by
  obtain ⟨r, e1, h1, q⟩ := h
  exact ⟨_, _, by unfold exec; rw [h1]; rfl, q⟩
theorem ws_ret {e : E} {Q : Out → Env → Prop} (h : WE Γ e env fun r e1 => ∃ t e2, (match r with
      | .own t => some (t, e1)
      | .al i [] => (match e1[i]? with
        | some (some t) => some (t, e1.set i none)
        | _ => none)
      | _ => none) = some (t, e2) ∧ Q (.ret t) e2) : WS Γ (.ret e) env Q := by
  obtain ⟨r, e1, h1, t, e2, h2, q⟩ := h
  refine ⟨_, _, ?_, q⟩
  unfold exec
  rw [h1]
  cases r with
  | own u => cases h2; rfl
  | al i p =>
    cases p with
    | cons _ _ => cases h2
    | nil =>
      simp only at h2 ⊢
      cases hq : e1[i]? with
      | none => rw [hq] at h2; cases h2
      | some o =>
        rw [hq] at h2
        cases o with
        | none => cases h2
        | some u => cases h2; rfl
theorem ws_retN {Q : Out → Env → Prop} (q : Q (.ret (.leaf .none)) env) : WS Γ .retN env Q := ⟨_, _, by unfold exec; rfl, q⟩
theorem ws_ife {c : E} {a b : Ss} {Q : Out → Env → Prop} (h : WB Γ c env fun k e => if k = true then WSs Γ a e Q else WSs Γ b e Q) : WS Γ (.ife c a b) env Q := by
  obtain ⟨k, e1, h1, q⟩ := h
  cases k with
  | true =>
    rw [if_pos rfl] at q
    obtain ⟨o, e2, h2, q⟩ := q
    exact ⟨o, e2, by unfold exec; rw [h1]; exact h2, q⟩
  | false =>
    rw [if_neg Bool.false_ne_true] at q
    obtain ⟨o, e2, h2, q⟩ := q
    exact ⟨o, e2, by unfold exec; rw [h1]; exact h2, q⟩
theorem ws_brk {Q : Out → Env → Prop} (q : Q .bk env) : WS Γ .brk env Q := ⟨_, _, by unfold exec; rfl, q⟩
theorem ws_cont {Q : Out → Env → Prop} (q : Q .ct env) : WS Γ .cont env Q := ⟨_, _, by unfold exec; rfl, q⟩
theorem ws_pass {Q : Out → Env → Prop} (q : Q .nx env) : WS Γ .pass env Q := ⟨_, _, by unfold exec; rfl, q⟩
theorem wi_range {as : Es} {Q : Src → Nat → Env → Prop} (h : WEs Γ as env fun rs e1 => ∃ ds s n, dats e1 rs = some ds ∧ rangeSrc ds = some (s, n) ∧ Q s n e1) : WI Γ (.range as) env Q := by
  obtain ⟨rs, e1, h1, ds, s, n, h2, h3, q⟩ := h
  exact ⟨s, n, e1, by unfold evIt; rw [h1]; simp only; rw [h2]; simp only; rw [h3]; rfl, q⟩
theorem range1 {hi : Int} (h : -(2 ^ 62) ≤ hi ∧ hi < 2 ^ 62) : rangeSrc [.int hi] = some (.fix (rangeD 0 hi.toNat), hi.toNat) := by unfold rangeSrc; simp only; rw [if_pos h]
theorem range2 {lo hi : Int} (h : (-(2 ^ 62) ≤ lo ∧ lo < 2 ^ 62) ∧ -(2 ^ 62) ≤ hi ∧ hi < 2 ^ 62) : rangeSrc [.int lo, .int hi] = some (.fix (rangeD lo (hi - lo).toNat), (hi - lo).toNat) := by unfold rangeSrc; simp only; rw [if_pos h]
theorem ev_comp {elt : E} {t : T} {it : It} {cond : C} {own : List (Str × Nat)} {s : Src} {n : Nat} {e1 e2 : Env} {ts : List OT} (h1 : evIt Γ it env = some (s, n, e1)) (hf : (slotsFree e1 (own.map (·.2)) && s.free (own.map (·.2))) = true) (h2 : compLoop s.get (compStep Γ elt t cond (own.map (·.2))) n 0 [] e1 = some (ts, e2)) : ev Γ (.comp elt t it cond own) env = some (.own (.lst ts), restore e1 (own.map (·.2)) e2) := by
  unfold ev
  rw [h1]
  simp only
  generalize own.map (·.2) = vs at hf h2 ⊢
  rw [hf]
  simp only [if_true]
  show (match compLoop s.get (compStep Γ elt t cond vs) n 0 [] e1 with
    | some (ts, env2) => some (R.own (.lst ts), restore e1 vs env2)
    | none => none) = _
  rw [h2]
theorem wc_non {Q : Bool → Env → Prop} (q : Q true env) : WC Γ .non env Q := ⟨_, _, by unfold evC; rfl, q⟩
theorem wc_some {e : E} {Q : Bool → Env → Prop} (h : WB Γ e env Q) : WC Γ (.some e) env Q := by
  obtain ⟨b, e1, h1, q⟩ := h
  exact ⟨b, e1, by unfold evC; exact h1, q⟩
/-! while -/
theorem ws_whl {c : E} {b : Ss} {Q : Out → Env → Prop} (I : Nat → Env → Prop) {n : Nat} (hn : n < 2 ^ 100) (h0 : I n env) (hs : ∀ m e, I m e → WB Γ c e fun k e1 => if k = true then WSs Γ b e1 fun o e2 => match o with
    | .nx => ∃ m', m' < m ∧ I m' e2
    | .ct => ∃ m', m' < m ∧ I m' e2
    | .bk => Q .nx e2
    | .ret u => Q (.ret u) e2 else Q .nx e1) : WS Γ (.whl c b) env Q := by
  have go : ∀ (f n : Nat) (e : Env), n < f → I n e → ∃ o e', whileLoop (fun e => boolOf (ev Γ c e)) (fun e => execs Γ b e) f e = some (o, e') ∧ Q o e' := by
    intro f
    induction f with
    | zero => intro n e h; omega
    | succ f ih =>
      intro n e hf hi
      obtain ⟨k, e1, h1, h2⟩ := hs n e hi
      cases k with
      | false => exact ⟨.nx, e1, by unfold whileLoop; simp only [h1], h2⟩
      | true =>
        rw [if_pos rfl] at h2
        obtain ⟨o, e2, h3, h4⟩ := h2
        cases o with
        | nx =>
          obtain ⟨m', hm, hi'⟩ := h4
          obtain ⟨o, e3, q1, q2⟩ := ih m' e2 (by omega) hi'
          exact ⟨o, e3, by unfold whileLoop; simp only [h1, h3]; exact q1, q2⟩
        | ct =>
          obtain ⟨m', hm, hi'⟩ := h4
          obtain ⟨o, e3, q1, q2⟩ := ih m' e2 (by omega) hi'
          exact ⟨o, e3, by unfold whileLoop; simp only [h1, h3]; exact q1, q2⟩
        | bk => exact ⟨_, _, by unfold whileLoop; simp only [h1, h3], h4⟩
        | ret u => exact ⟨_, _, by unfold whileLoop; simp only [h1, h3], h4⟩
  obtain ⟨o, e', h1, q⟩ := go whileFuel n env (by unfold whileFuel; exact hn) h0
  exact ⟨o, e', by unfold exec; exact h1, q⟩
end
end PyI

/-! What must hold for a run to end so: computed from the text, with own heads where a choice or a fact is wanted. -/
namespace PyI
open PySem
/-! ### heads -/
structure If2 (c : Bool) (A B : Prop) : Prop where
  t : c = true → A
  f : c = false → B
structure Sd (p A : Prop) : Prop where
  p : p
  a : A
structure EqP (a b : D) (K : Bool → Prop) : Prop where
  sa : SeqAt.shaped a = true
  sb : SeqAt.shaped b = true
  k : K (PyData.eqv a b)
structure IsP (c : String) (d : D) (K : Bool → Prop) : Prop where
  ex : ∃ b, isA c d = some b ∧ K b
structure InP (d e : D) (K : Bool → Prop) : Prop where
  ex : ∃ b, inSem d e = some b ∧ K b
structure IntsP (xs : List D) (K : List Int → Prop) : Prop where
  ex : ∃ ns, ints? xs = some ns ∧ K ns
structure BoolsP (xs : List D) (K : List Bool → Prop) : Prop where
  ex : ∃ bs, bools? xs = some bs ∧ K bs
structure MinP (f : List Int → Option Int) (xs : List D) (K : Int → Prop) : Prop where
  ex : ∃ ns m, ints? xs = some ns ∧ f ns = some m ∧ K m
structure LvP (ts : List OT) (K : List D → Prop) : Prop where
  ex : ∃ ds, leaves ts = some ds ∧ K ds
structure DtP (ts : List OT) (K : D → Prop) : Prop where
  k : K (.list (OT.dats ts))
structure IxD (ds : List D) (i : Int) (K : D → Prop) : Prop where
  ex : ∃ k d, L2.ixN ds.length i = some k ∧ ds[k]? = some d ∧ K d
structure IxT (ts : List OT) (i : Int) (K : Nat → OT → Prop) : Prop where
  ex : ∃ k t, L2.ixN ts.length i = some k ∧ ts[k]? = some t ∧ K k t
/-- a key's place -/
structure KeyP (ks : List L2.Key) (y : D) (K : Nat → Prop) : Prop where
  ex : ∃ k j, keyOf y = some k ∧ posK ks k = some j ∧ K j
structure DicP (kvs : List (D × D)) (y : D) (K : D → Prop) : Prop where
  ex : ∃ d, ixLeaf (.dict kvs) y = some d ∧ K d
structure NthP (ts : List OT) (k : Nat) (K : OT → Prop) : Prop where
  ex : ∃ t, ts[k]? = some t ∧ K t
structure DPutP (ks : List L2.Key) (xs : List OT) (y : D) (x : OT) (K : List L2.Key → List OT → Prop) : Prop where
  room : ks.length < sizeLine
  ex : ∃ k, keyOf y = some k ∧ ((∃ j, posK ks k = some j ∧ K ks (xs.set j x)) ∨ posK ks k = none ∧ K (ks ++ [k]) (xs ++ [x]))
structure SetP (xs : List OT) (j : Nat) (x : OT) (K : List OT → Prop) : Prop where
  k : K (xs.set j x)
structure DdP (ks : List L2.Key) (ts : List OT) (K : D → Prop) : Prop where
  k : K (.dict ((ks.map keyD).zip (OT.dats ts)))
structure AtP (t : OT) (p : List Nat) (K : OT → Prop) : Prop where
  ex : ∃ u, t.at? p = some u ∧ K u
structure PutP (t : OT) (p : List Nat) (n : OT) (K : OT → Prop) : Prop where
  ex : ∃ u, t.put p n = some u ∧ K u
structure RepP (d : D) (A : Prop) : Prop where
  p : fits d = true
  a : A
/-- between two statements -/
structure Bd (A : Prop) : Prop where
  a : A
structure LenP (xs : List D) (K : Int → Prop) : Prop where
  k : K xs.length
structure SrtP (xs : List D) (K : List D → Prop) : Prop where
  ex : ∃ ds, sortD xs = some ds ∧ K ds
structure SnocP (ts : List OT) (t : OT) (K : List OT → Prop) : Prop where
  k : K (ts ++ [t])
structure ExtP (ts : List OT) (ds : List D) (K : List OT → Prop) : Prop where
  k : K (ts ++ ds.map .leaf)
structure PopP (ts : List OT) (K : D → List OT → Prop) : Prop where
  ex : ∃ d, ts[ts.length - 1]? = some (.leaf d) ∧ K d ts.dropLast
structure DelP (ts : List OT) (i : Int) (K : D → List OT → Prop) : Prop where
  ex : ∃ k d, L2.ixN ts.length i = some k ∧ ts[k]? = some (.leaf d) ∧ K d (ts.eraseIdx k)
structure TksP (rs : List R) (env : Env) (K : List OT → Env → Prop) : Prop where
  ex : ∃ ts e, takes rs env = some (ts, e) ∧ K ts e
structure CallP (f : List OT → Option (OT × List (Option OT))) (ts : List OT) (K : OT → List (Option OT) → Prop) : Prop where
  ex : ∃ t fin, f ts = some (t, fin) ∧ fin.length = ts.length ∧ K t fin
structure CompP (Γ : Ctx) (elt : E) (t : T) (cond : C) (vs : List Nat) (s : Src) (n : Nat) (e1 : Env) (Q : R → Env → Prop) : Prop where
  hf : (slotsFree e1 vs && s.free vs) = true
  ex : ∃ ts e2, compLoop s.get (compStep Γ elt t cond vs) n 0 [] e1 = some (ts, e2) ∧ Q (.own (.lst ts)) (restore e1 vs e2)
structure LoopP (Γ : Ctx) (t : T) (b : Ss) (s : Src) (n : Nat) (e1 : Env) (Q : Out → Env → Prop) : Prop where
  hf : (!s.free (t.asgs ++ b.asgs)) = false
  ex : ∃ o e, forLoop s.get (forStep Γ t b) n 0 e1 = some (o, e) ∧ Q o e
structure WhlP (Γ : Ctx) (c : E) (b : Ss) (e1 : Env) (Q : Out → Env → Prop) : Prop where
  ex : ∃ o e, whileLoop (fun e => boolOf (ev Γ c e)) (fun e => execs Γ b e) whileFuel e1 = some (o, e) ∧ Q o e

/-! ### slots -/
def lk : Env → Nat → Option OT
  | [], _ => none
  | x :: _, 0 => x
  | _ :: r, i + 1 => lk r i
theorem lk_eq : ∀ {env : Env} {i : Nat} {t : OT}, lk env i = some t → env[i]? = some (some t)
  | x :: r, 0, t, h => by cases h; rfl
  | x :: r, i + 1, t, h => lk_eq (env := r) h
def stK : Env → Nat → Option OT → (Env → Prop) → Prop
  | [], _, _, _ => False
  | _ :: r, 0, v, K => K (v :: r)
  | x :: r, i + 1, v, K => stK r i v fun r' => K (x :: r')
theorem stK_eq : ∀ {env : Env} {i : Nat} {v : Option OT} {K : Env → Prop}, stK env i v K → i < env.length ∧ K (env.set i v)
  | x :: r, 0, v, K, h => ⟨Nat.zero_lt_succ _, h⟩
  | x :: r, i + 1, v, K, h => by
    obtain ⟨h1, h2⟩ := stK_eq (env := r) h
    exact ⟨Nat.succ_lt_succ h1, h2⟩
def lookK (env : Env) (v : Nat) (p : List Nat) (K : OT → Prop) : Prop := match lk env v with
  | some t => (match p with
    | [] => K t
    | k :: p => AtP t (k :: p) K)
  | none => False
theorem lookK_eq {env : Env} {v : Nat} {p : List Nat} {K : OT → Prop} (h : lookK env v p K) : ∃ t, env.look v p = some t ∧ K t := by
  unfold lookK at h
  split at h
  · rename_i t h1
    have h2 := lk_eq h1
    cases p with
    | nil => exact ⟨t, by unfold Env.look; rw [h2]; cases t <;> rfl, h⟩
    | cons k p =>
      obtain ⟨u, h3, h4⟩ := h
      exact ⟨u, by unfold Env.look; rw [h2]; exact h3, h4⟩
  · exact h.elim
def treeK (r : R) (env : Env) (K : OT → Prop) : Prop := match r with
  | .own t => K t
  | .al i p => lookK env i p K
theorem treeK_eq {r : R} {env : Env} {K : OT → Prop} (h : treeK r env K) : ∃ t, r.tree env = some t ∧ K t := by
  cases r with
  | own t => exact ⟨t, rfl, h⟩
  | al i p => exact lookK_eq h
def putK (env : Env) (v : Nat) (p : List Nat) (n : OT) (K : Env → Prop) : Prop := match lk env v with
  | some t => (match p with
    | [] => stK env v (some n) K
    | k :: p => PutP t (k :: p) n fun u => stK env v (some u) K)
  | none => False
theorem putK_eq {env : Env} {v : Nat} {p : List Nat} {n : OT} {K : Env → Prop} (h : putK env v p n K) : ∃ e, env.put v p n = some e ∧ K e := by
  unfold putK at h
  split at h
  · rename_i t h1
    have h2 := lk_eq h1
    cases p with
    | nil =>
      have h3 := stK_eq h
      refine ⟨_, ?_, h3.2⟩
      unfold Env.put
      rw [h2]
      cases t <;> rfl
    | cons k p =>
      obtain ⟨u, h3, h4⟩ := h
      refine ⟨_, ?_, (stK_eq h4).2⟩
      unfold Env.put
      rw [h2]
      simp only
      rw [h3]
  · exact h.elim
def dtK (t : OT) (K : D → Prop) : Prop := match t with
  | .leaf d => K d
  | .nod none ts => DtP ts K
  | .nod (some ks) ts => DdP ks ts K
theorem dtK_eq {t : OT} {K : D → Prop} (h : dtK t K) : K t.dat := by
  cases t with
  | leaf d => exact h
  | nod g ts => cases g with
    | none => exact h.k
    | some ks => exact h.k
def dtsK : List OT → (List D → Prop) → Prop
  | [], K => K []
  | t :: ts, K => dtK t fun d => dtsK ts fun ds => K (d :: ds)
theorem dtsK_eq : ∀ {ts : List OT} {K : List D → Prop}, dtsK ts K → K (OT.dats ts)
  | [], K, h => h
  | t :: ts, K, h => dtsK_eq (ts := ts) (dtK_eq h)
def takeK (r : R) (env : Env) (K : OT → Env → Prop) : Prop := match r with
  | .own t => K t env
  | .al i p => (match p with
    | [] => (match lk env i with
      | some t => dtK t fun d => stK env i (some (.leaf d)) fun e => K (.leaf d) e
      | none => False)
    | _ :: _ => False)
theorem takeK_eq {r : R} {env : Env} {K : OT → Env → Prop} (h : takeK r env K) : ∃ t e, r.take env = some (t, e) ∧ K t e := by
  cases r with
  | own t => exact ⟨t, env, rfl, h⟩
  | al i p =>
    cases p with
    | cons _ _ => exact h.elim
    | nil =>
      unfold takeK at h
      simp only at h
      split at h
      · rename_i t h1
        exact ⟨_, _, by unfold R.take; simp only; rw [lk_eq h1], (stK_eq (dtK_eq h)).2⟩
      · exact h.elim
def takesK : List R → Env → (List OT → Env → Prop) → Prop
  | [], env, K => K [] env
  | r :: rs, env, K => takeK r env fun t e1 => takesK rs e1 fun ts e2 => K (t :: ts) e2
theorem takesK_eq : ∀ {rs : List R} {env : Env} {K : List OT → Env → Prop}, takesK rs env K → ∃ ts e, takes rs env = some (ts, e) ∧ K ts e
  | [], env, K, h => ⟨[], env, rfl, h⟩
  | r :: rs, env, K, h => by
    obtain ⟨t, e1, h1, h⟩ := takeK_eq h
    obtain ⟨ts, e2, h2, h⟩ := takesK_eq h
    exact ⟨t :: ts, e2, by unfold takes; rw [h1]; simp only; rw [h2], h⟩
def shK (r : R) (env : Env) (K : D → Prop) : Prop := treeK r env fun t => match t with
  | .leaf d => K d
  | .nod none ts => LvP ts fun ds => K (.list ds)
  | .nod (some _) _ => False
theorem shK_eq {r : R} {env : Env} {K : D → Prop} (h : shK r env K) : ∃ d, r.sh env = some d ∧ K d := by
  obtain ⟨t, h1, h⟩ := treeK_eq h
  cases t with
  | leaf d => exact ⟨d, by unfold R.sh; rw [h1]; rfl, h⟩
  | nod g ts => cases g with
    | some _ => exact h.elim
    | none =>
      obtain ⟨ds, h2, h⟩ := h
      exact ⟨_, by unfold R.sh; rw [h1]; show (leaves ts).map PyData.list = _; rw [h2]; rfl, h⟩
/-- a tree's data -/
def datsK : List R → Env → (List D → Prop) → Prop
  | [], _, K => K []
  | r :: rs, env, K => treeK r env fun t => dtK t fun d => datsK rs env fun ds => K (d :: ds)
theorem datsK_eq : ∀ {rs : List R} {env : Env} {K : List D → Prop}, datsK rs env K → ∃ ds, dats env rs = some ds ∧ K ds
  | [], env, K, h => ⟨[], rfl, h⟩
  | r :: rs, env, K, h => by
    obtain ⟨t, h1, h⟩ := treeK_eq h
    obtain ⟨ds, h2, h⟩ := datsK_eq (dtK_eq h)
    exact ⟨t.dat :: ds, by unfold dats R.dat; rw [h1]; simp only [Option.map]; rw [h2], h⟩
def datK (r : R) (env : Env) (K : D → Prop) : Prop := treeK r env fun t => dtK t K
theorem datK_eq {r : R} {env : Env} {K : D → Prop} (h : datK r env K) : ∃ d, r.dat env = some d ∧ K d := by
  obtain ⟨t, h1, h⟩ := treeK_eq h
  exact ⟨_, by unfold R.dat; rw [h1]; rfl, dtK_eq h⟩
def intK (d : D) (K : Int → Prop) : Prop := match d with
  | .int i => K i
  | _ => False
theorem intK_eq {d : D} {K : Int → Prop} (h : intK d K) : ∃ i, d = .int i ∧ K i := by
  unfold intK at h
  split at h
  · exact ⟨_, rfl, h⟩
  · exact h.elim
def boolK (r : R) (K : Bool → Prop) : Prop := match r with
  | .own (.leaf (.bool b)) => K b
  | _ => False
theorem boolK_eq {r : R} {K : Bool → Prop} (h : boolK r K) : ∃ b, r = .own (.leaf (.bool b)) ∧ K b := by
  unfold boolK at h
  split at h
  · exact ⟨_, rfl, h⟩
  · exact h.elim
def lstK (t : OT) (K : List OT → Prop) : Prop := match t with
  | .nod none ts => K ts
  | _ => False
theorem lstK_eq {t : OT} {K : List OT → Prop} (h : lstK t K) : ∃ ts, t = .lst ts ∧ K ts := by
  cases t with
  | nod g ts => cases g with
    | none => exact ⟨ts, rfl, h⟩
    | some _ => exact h.elim
  | leaf _ => exact h.elim
def noK (c : Bool) (A : Prop) : Prop := match c with
  | true => False
  | false => A
theorem noK_eq {c : Bool} {A : Prop} (h : noK c A) : c = false ∧ A := by cases c with
  | true => exact h.elim
  | false => exact ⟨rfl, h⟩
def yesK (c : Bool) (A : Prop) : Prop := match c with
  | true => A
  | false => False
theorem yesK_eq {c : Bool} {A : Prop} (h : yesK c A) : c = true ∧ A := by cases c with
  | false => exact h.elim
  | true => exact ⟨rfl, h⟩
theorem If2.elim {c : Bool} {A B : Prop} (h : If2 c A B) : if c = true then A else B := by
  cases c with
  | true => exact h.t rfl
  | false => exact h.f rfl
/-! ### operators -/
def i2K (a b : D) (K : Int → Int → Prop) : Prop := intK a fun i => intK b fun j => K i j
theorem i2K_eq {a b : D} {K : Int → Int → Prop} (h : i2K a b K) : ∃ i j, a = .int i ∧ b = .int j ∧ K i j := by
  obtain ⟨i, rfl, h1⟩ := intK_eq h
  obtain ⟨j, rfl, h2⟩ := intK_eq h1
  exact ⟨i, j, rfl, rfl, h2⟩
def isNone : D → Bool
  | .none => true
  | _ => false
def MulOk (i j : Int) : Prop := (-(2 ^ 64) < i ∧ i < 2 ^ 64) ∨ (-(2 ^ 64) < j ∧ j < 2 ^ 64)
def wpF (o : Op) (ds : List D) (K : D → Prop) : Prop := match o, ds with
  | .sub, [a, b] => i2K a b fun i j => K (.int (i - j))
  | .mul, [a, b] => i2K a b fun i j => Sd (MulOk i j) (K (.int (i * j)))
  | .fdiv, [a, b] => i2K a b fun i j => Sd (0 < j ∧ j < 1073741824) (K (.int (i / j)))
  | .mod, [a, b] => i2K a b fun i j => Sd (0 < j) (K (.int (i % j)))
  | .pow, [a, b] => i2K a b fun i j => Sd (0 ≤ j ∧ j ≤ 1000000 ∧ i.natAbs < 2 ^ 64) (K (.int (i ^ j.toNat)))
  | .neg, [a] => intK a fun i => K (.int (-i))
  | .eq, [a, b] => EqP a b fun c => K (.bool c)
  | .ne, [a, b] => EqP a b fun c => K (.bool (!c))
  | .lt, [a, b] => i2K a b fun i j => K (.bool (decide (i < j)))
  | .le, [a, b] => i2K a b fun i j => K (.bool (decide (i ≤ j)))
  | .gt, [a, b] => i2K a b fun i j => K (.bool (decide (j < i)))
  | .ge, [a, b] => i2K a b fun i j => K (.bool (decide (j ≤ i)))
  | .isN, [a] => K (.bool (isNone a))
  | .notN, [a] => K (.bool (!isNone a))
  | .isT, [a] => (match a with
    | .bool b => K (.bool b)
    | _ => False)
  | .notT, [a] => (match a with
    | .bool b => K (.bool (!b))
    | _ => False)
  | .len, [a] => (match a with
    | .list xs => LenP xs fun n => K (.int n)
    | .tuple xs => LenP xs fun n => K (.int n)
    | _ => False)
  | .abs, [a] => intK a fun i => K (.int (if i < 0 then -i else i))
  | .int, [a] => (match a with
    | .int i => K (.int i)
    | .bool b => K (.int (if b then 1 else 0))
    | _ => False)
  | .str, [a] => intK a fun i => Sd (i.natAbs.log2 < 1920) (K (.str (toString i)))
  | .repr, [a] => RepP a (K (.str a.shown))
  | .sum, [a] => (match a with
    | .list xs => IntsP xs fun ns => K (.int ns.sum)
    | .tuple xs => IntsP xs fun ns => K (.int ns.sum)
    | _ => False)
  | .min, [a, b] => i2K a b fun i j => K (.int (if j < i then j else i))
  | .max, [a, b] => i2K a b fun i j => K (.int (if j > i then j else i))
  | .min, [a] => (match a with
    | .list xs => MinP minI xs fun m => K (.int m)
    | .tuple xs => MinP minI xs fun m => K (.int m)
    | _ => False)
  | .max, [a] => (match a with
    | .list xs => MinP maxI xs fun m => K (.int m)
    | .tuple xs => MinP maxI xs fun m => K (.int m)
    | _ => False)
  | .any, [a] => (match a with
    | .list xs => BoolsP xs fun bs => K (.bool (bs.any id))
    | _ => False)
  | .all, [a] => (match a with
    | .list xs => BoolsP xs fun bs => K (.bool (bs.all id))
    | _ => False)
  | .isI c, [a] => IsP c a fun b => K (.bool b)
  | .isin, [a, b] => InP a b fun c => K (.bool c)
  | .notin, [a, b] => InP a b fun c => K (.bool (!c))
  | _, _ => False
theorem wpF_eq {o : Op} {ds : List D} {K : D → Prop} (h : wpF o ds K) : ∃ d, flatSem o ds = some d ∧ K d := by
  unfold wpF at h
  split at h
  · obtain ⟨i, j, rfl, rfl, h⟩ := i2K_eq h; exact ⟨_, rfl, h⟩
  · obtain ⟨i, j, rfl, rfl, h⟩ := i2K_eq h
    refine ⟨_, ?_, h.a⟩
    unfold flatSem
    simp only
    rw [if_pos]
    have := h.p
    unfold MulOk at this
    unfold intMulOk
    simp only [Bool.or_eq_true, Bool.and_eq_true, decide_eq_true_eq]
    exact this
  · obtain ⟨i, j, rfl, rfl, h⟩ := i2K_eq h
    refine ⟨_, ?_, h.a⟩
    have := h.p
    unfold flatSem
    simp only
    rw [if_pos (by omega), Int.fdiv_eq_ediv_of_nonneg _ (by omega)]
  · obtain ⟨i, j, rfl, rfl, h⟩ := i2K_eq h
    refine ⟨_, ?_, h.a⟩
    have := h.p
    unfold flatSem
    simp only
    rw [if_pos (by omega), Int.fmod_eq_emod_of_nonneg _ (by omega)]
  · obtain ⟨i, j, rfl, rfl, h⟩ := i2K_eq h
    exact ⟨_, by unfold flatSem; simp only; rw [if_pos h.p], h.a⟩
  · obtain ⟨i, rfl, h⟩ := intK_eq h; exact ⟨_, rfl, h⟩
  · exact ⟨_, by unfold flatSem; simp only; rw [h.sa, h.sb]; rfl, h.k⟩
  · exact ⟨_, by unfold flatSem; simp only; rw [h.sa, h.sb]; rfl, h.k⟩
  · obtain ⟨i, j, rfl, rfl, h⟩ := i2K_eq h; exact ⟨_, rfl, h⟩
  · obtain ⟨i, j, rfl, rfl, h⟩ := i2K_eq h; exact ⟨_, rfl, h⟩
  · obtain ⟨i, j, rfl, rfl, h⟩ := i2K_eq h; exact ⟨_, rfl, h⟩
  · obtain ⟨i, j, rfl, rfl, h⟩ := i2K_eq h; exact ⟨_, rfl, h⟩
  · rename_i a
    refine ⟨_, ?_, h⟩
    cases a <;> rfl
  · rename_i a
    refine ⟨_, ?_, h⟩
    cases a <;> rfl
  · split at h
    · exact ⟨_, rfl, h⟩
    · exact h.elim
  · split at h
    · exact ⟨_, rfl, h⟩
    · exact h.elim
  · split at h
    · exact ⟨_, rfl, h.k⟩
    · exact ⟨_, rfl, h.k⟩
    · exact h.elim
  · obtain ⟨i, rfl, h⟩ := intK_eq h; exact ⟨_, rfl, h⟩
  · split at h
    · exact ⟨_, rfl, h⟩
    · exact ⟨_, rfl, h⟩
    · exact h.elim
  · obtain ⟨i, rfl, h⟩ := intK_eq h
    exact ⟨_, by unfold flatSem; simp only; rw [if_pos h.p], h.a⟩
  · exact ⟨_, by unfold flatSem; simp only; rw [if_pos h.p], h.a⟩
  · split at h
    · obtain ⟨ns, h1, h⟩ := h
      exact ⟨_, by unfold flatSem; simp only; rw [h1]; rfl, h⟩
    · obtain ⟨ns, h1, h⟩ := h
      exact ⟨_, by unfold flatSem; simp only; rw [h1]; rfl, h⟩
    · exact h.elim
  · obtain ⟨i, j, rfl, rfl, h⟩ := i2K_eq h; exact ⟨_, rfl, h⟩
  · obtain ⟨i, j, rfl, rfl, h⟩ := i2K_eq h; exact ⟨_, rfl, h⟩
  · split at h
    · obtain ⟨ns, m, h1, h2, h⟩ := h
      exact ⟨_, by unfold flatSem; simp only; rw [h1]; simp only [Option.bind]; rw [h2]; rfl, h⟩
    · obtain ⟨ns, m, h1, h2, h⟩ := h
      exact ⟨_, by unfold flatSem; simp only; rw [h1]; simp only [Option.bind]; rw [h2]; rfl, h⟩
    · exact h.elim
  · split at h
    · obtain ⟨ns, m, h1, h2, h⟩ := h
      exact ⟨_, by unfold flatSem; simp only; rw [h1]; simp only [Option.bind]; rw [h2]; rfl, h⟩
    · obtain ⟨ns, m, h1, h2, h⟩ := h
      exact ⟨_, by unfold flatSem; simp only; rw [h1]; simp only [Option.bind]; rw [h2]; rfl, h⟩
    · exact h.elim
  · split at h
    · obtain ⟨ns, h1, h⟩ := h
      exact ⟨_, by unfold flatSem; simp only; rw [h1]; rfl, h⟩
    · exact h.elim
  · split at h
    · obtain ⟨ns, h1, h⟩ := h
      exact ⟨_, by unfold flatSem; simp only; rw [h1]; rfl, h⟩
    · exact h.elim
  · obtain ⟨b, h1, h⟩ := h
    exact ⟨_, by unfold flatSem; simp only; rw [h1]; rfl, h⟩
  · obtain ⟨b, h1, h⟩ := h
    exact ⟨_, by unfold flatSem; simp only; rw [h1]; rfl, h⟩
  · obtain ⟨b, h1, h⟩ := h
    exact ⟨_, by unfold flatSem; simp only; rw [h1]; rfl, h⟩
  · exact h.elim
/-- add by its values -/
def addK (a b : D) (K : OT → Prop) : Prop := match a, b with
  | .int i, .int j => K (.leaf (.int (i + j)))
  | .list xs, .list ys => Sd (xs.length + ys.length ≤ sizeLine) (K (ofList (xs ++ ys)))
  | .tuple xs, .tuple ys => Sd (xs.length + ys.length ≤ sizeLine) (K (.leaf (.tuple (xs ++ ys))))
  | .str x, .str y => Sd (x.length + y.length ≤ sizeLine) (K (.leaf (.str (x ++ y))))
  | _, _ => False
def ixLK (d y : D) (K : D → Prop) : Prop := match d with
  | .list ds => intK y fun i => IxD ds i K
  | .tuple ds => intK y fun i => IxD ds i K
  | .dict kvs => DicP kvs y K
  | _ => False
theorem ixLK_eq {d y : D} {K : D → Prop} (h : ixLK d y K) : ∃ x, ixLeaf d y = some x ∧ K x := by
  cases d with
  | list ds =>
    obtain ⟨i, rfl, k, x, h1, h2, h3⟩ := intK_eq h
    exact ⟨x, by unfold ixLeaf; simp only; unfold ixOf; rw [h1]; exact h2, h3⟩
  | tuple ds =>
    obtain ⟨i, rfl, k, x, h1, h2, h3⟩ := intK_eq h
    exact ⟨x, by unfold ixLeaf; simp only; unfold ixOf; rw [h1]; exact h2, h3⟩
  | dict kvs => exact h.ex
  | _ => exact h.elim
/-- an item's place in a node, the item -/
def nodK (g : Option (List L2.Key)) (ts : List OT) (y : D) (K : Nat → OT → Prop) : Prop := match g with
  | none => intK y fun i => IxT ts i K
  | some ks => KeyP ks y fun k => NthP ts k fun t => K k t
theorem nodK_eq {g : Option (List L2.Key)} {ts : List OT} {y : D} {K : Nat → OT → Prop} (h : nodK g ts y K) : ∃ k t, posG g ts.length y = some k ∧ ts[k]? = some t ∧ K k t := by
  cases g with
  | none =>
    obtain ⟨i, rfl, k, t, h1, h2, h3⟩ := intK_eq h
    exact ⟨k, t, h1, h2, h3⟩
  | some ks =>
    obtain ⟨key, j, h1, h2, t, h3, h4⟩ := h
    exact ⟨j, t, by unfold posG; simp only; rw [h1]; exact h2, h3, h4⟩
def ixK (a : R) (y : D) (env : Env) (Q : R → Env → Prop) : Prop := match a with
  | .al v p => lookK env v p fun t => (match t with
    | .nod g ts => nodK g ts y fun k t => (match t with
      | .leaf d => Q (.own (.leaf d)) env
      | .nod _ _ => Q (.al v (p ++ [k])) env)
    | .leaf d => ixLK d y fun x => Q (.own (.leaf x)) env)
  | .own (.leaf d) => ixLK d y fun x => Q (.own (.leaf x)) env
  | .own (.nod g ts) => nodK g ts y fun _ t => (match t with
    | .leaf d => Q (.own (.leaf d)) env
    | .nod _ _ => False)
theorem ixK_eq {a : R} {y : D} {env : Env} {Q : R → Env → Prop} (h : ixK a y env Q) : ∃ r e, ixSem a y env = some (r, e) ∧ Q r e := by
  cases a with
  | own t =>
    cases t with
    | leaf d =>
      obtain ⟨x, h1, h2⟩ := ixLK_eq h
      exact ⟨_, _, by unfold ixSem; simp only; rw [h1]; rfl, h2⟩
    | nod g ts =>
      obtain ⟨k, t, h1, h2, h3⟩ := nodK_eq h
      cases t with
      | leaf d => exact ⟨_, _, by unfold ixSem; simp only; rw [h1]; simp only; rw [h2], h3⟩
      | nod _ _ => exact h3.elim
  | al v p =>
    obtain ⟨t, h0, h⟩ := lookK_eq h
    cases t with
    | leaf d =>
      obtain ⟨x, h1, h2⟩ := ixLK_eq h
      exact ⟨_, _, by unfold ixSem; simp only; rw [h0]; simp only; rw [h1]; rfl, h2⟩
    | nod g ts =>
      obtain ⟨k, t, h1, h2, h3⟩ := nodK_eq h
      cases t with
      | leaf d => exact ⟨_, _, by unfold ixSem; simp only; rw [h0]; simp only; rw [h1]; simp only; rw [h2], h3⟩
      | nod _ _ => exact ⟨_, _, by unfold ixSem; simp only; rw [h0]; simp only; rw [h1]; simp only; rw [h2], h3⟩
def wpO (o : Op) (rs : List R) (env : Env) (Q : R → Env → Prop) : Prop := match isFlat o with
  | true => datsK rs env fun ds => wpF o ds fun d => Q (.own (.leaf d)) env
  | false => (match o, rs with
    | .add, [a, b] => shK a env fun x => shK b env fun y => addK x y fun t => Q (.own t) env
    | .tup, rs => takesK rs env fun ts e => dtsK ts fun ds => Q (.own (.leaf (.tuple ds))) e
    | .lst, rs => takesK rs env fun ts e => Q (.own (.lst ts)) e
    | .nil, [] => Q (.own (.lst [])) env
    | .dic0, [] => Q (.own (.leaf (.dict []))) env
    | .shr, [a] => takeK a env fun t e => dtK t fun d => Q (.own (.leaf d)) e
    | .ix, [a, b] => datK b env fun y => ixK a y env Q
    | .tuple, [a] => shK a env fun d => (match d with
      | .list xs => Q (.own (.leaf (.tuple xs))) env
      | .tuple xs => Q (.own (.leaf (.tuple xs))) env
      | _ => False)
    | .list, [a] => shK a env fun d => (match d with
      | .list xs => Q (.own (ofList xs)) env
      | .tuple xs => Q (.own (ofList xs)) env
      | _ => False)
    | .sorted, [a] => shK a env fun d => (match d with
      | .list xs => SrtP xs fun ds => Q (.own (.lst (ds.map .leaf))) env
      | .tuple xs => SrtP xs fun ds => Q (.own (.lst (ds.map .leaf))) env
      | _ => False)
    | .lrg, [a] => datK a env fun d => intK d fun n => Sd (-4611686018427387904 ≤ n ∧ n ≤ 16777216) (Q (.own (.lst (((rgI n).map .int).map .leaf))) env)
    | .trg, [a] => datK a env fun d => intK d fun n => Sd (-4611686018427387904 ≤ n ∧ n ≤ 16777216) (Q (.own (.leaf (.tuple ((rgI n).map .int)))) env)
    | .rev, [a] => shK a env fun d => (match d with
      | .list xs => Q (.own (ofList xs.reverse)) env
      | .tuple xs => Q (.own (.leaf (.tuple xs.reverse))) env
      | _ => False)
    | _, _ => False)
theorem wpO_eq {o : Op} {rs : List R} {env : Env} {Q : R → Env → Prop} (h : wpO o rs env Q) : WO o rs env Q := by
  unfold wpO at h
  cases hf : isFlat o with
  | true =>
    rw [hf] at h
    obtain ⟨ds, h1, h⟩ := datsK_eq h
    obtain ⟨d, h2, h⟩ := wpF_eq h
    exact wo_flat hf h1 h2 h
  | false =>
    rw [hf] at h
    simp only at h
    split at h
    · obtain ⟨x, h1, h⟩ := shK_eq h
      obtain ⟨y, h2, h⟩ := shK_eq h
      unfold addK at h
      split at h
      · exact wo_addi h1 h2 h
      · exact wo_addl h1 h2 h.p h.a
      · exact wo_addt h1 h2 h.p h.a
      · exact ⟨_, _, by unfold opSem; simp [isFlat, h1, h2, h.p], h.a⟩
      · exact h.elim
    · obtain ⟨ts, e, h1, h⟩ := takesK_eq h
      exact wo_tup h1 rfl (dtsK_eq h)
    · obtain ⟨ts, e, h1, h⟩ := takesK_eq h
      exact wo_lst h1 h
    · exact wo_nil h
    · exact ⟨_, _, rfl, h⟩
    · obtain ⟨t, e, h1, h⟩ := takeK_eq h
      exact ⟨_, _, by unfold opSem; simp [isFlat, h1], dtK_eq h⟩
    · obtain ⟨d, h1, h⟩ := datK_eq h
      obtain ⟨r, e, h2, h⟩ := ixK_eq h
      exact ⟨r, e, by unfold opSem; rw [show isFlat .ix = false from rfl]; simp only [Bool.false_eq_true, if_false]; rw [h1]; exact h2, h⟩
    · obtain ⟨x, h1, h⟩ := shK_eq h
      split at h
      · exact wo_tuple h1 h
      · exact wo_tuplet h1 h
      · exact h.elim
    · obtain ⟨x, h1, h⟩ := shK_eq h
      split at h
      · exact wo_list h1 h
      · exact ⟨_, _, by unfold opSem; simp [isFlat, h1], h⟩
      · exact h.elim
    · obtain ⟨x, h1, h⟩ := shK_eq h
      split at h
      · obtain ⟨ns, h2, h⟩ := h
        exact ⟨_, _, by unfold opSem; simp [isFlat, h1, h2, ofList], h⟩
      · obtain ⟨ns, h2, h⟩ := h
        exact ⟨_, _, by unfold opSem; simp [isFlat, h1, h2, ofList], h⟩
      · exact h.elim
    · obtain ⟨x, h1, h⟩ := datK_eq h
      obtain ⟨n, rfl, h⟩ := intK_eq h
      exact ⟨_, _, by unfold opSem; simp [isFlat, h1, h.p, ofList], h.a⟩
    · obtain ⟨x, h1, h⟩ := datK_eq h
      obtain ⟨n, rfl, h⟩ := intK_eq h
      exact ⟨_, _, by unfold opSem; simp [isFlat, h1, h.p], h.a⟩
    · obtain ⟨x, h1, h⟩ := shK_eq h
      split at h
      · exact wo_rev h1 h
      · exact ⟨_, _, by unfold opSem; simp [isFlat, h1], h⟩
      · exact h.elim
    · exact h.elim
def wpSl (r : R) (lo hi : Option Int) (env : Env) (Q : R → Env → Prop) : Prop := shK r env fun d => match d with
  | .list xs => Q (.own (ofList (cutD xs lo hi))) env
  | .tuple xs => Q (.own (.leaf (.tuple (cutD xs lo hi)))) env
  | _ => False
theorem wpSl_eq {r : R} {lo hi : Option Int} {env : Env} {Q : R → Env → Prop} (h : wpSl r lo hi env Q) : ∃ r' e, slSem r lo hi env = some (r', e) ∧ Q r' e := by
  obtain ⟨d, h1, h⟩ := shK_eq h
  split at h
  · exact ⟨_, _, by unfold slSem; rw [h1], h⟩
  · exact ⟨_, _, by unfold slSem; rw [h1], h⟩
  · exact h.elim
def wpM (m : Mt) (r : R) (rs : List R) (env : Env) (Q : R → Env → Prop) : Prop := match m, r, rs with
  | .append, .al v p, [b] => takeK b env fun t e1 => lookK e1 v p fun l => lstK l fun ts => Sd (ts.length < sizeLine) (SnocP ts t fun us => putK e1 v p (.lst us) fun e => Q (.own (.leaf .none)) e)
  | .extend, .al v p, [b] => shK b env fun d => (match d with
    | .list ds => lookK env v p fun l => lstK l fun ts => Sd (ts.length + ds.length ≤ sizeLine) (ExtP ts ds fun us => putK env v p (.lst us) fun e => Q (.own (.leaf .none)) e)
    | _ => False)
  | .pop, .al v p, [] => lookK env v p fun l => lstK l fun ts => PopP ts fun d us => putK env v p (.lst us) fun e => Q (.own (.leaf d)) e
  | .insert, .al v p, [b, .own (.leaf d)] => datK b env fun y => intK y fun i => lookK env v p fun l => lstK l fun ts => LvP ts fun ds => Sd (ds.length < sizeLine ∧ 0 ≤ i ∧ i < 2 ^ 63) (putK env v p (.lst ((ds.take i.toNat ++ [d] ++ ds.drop i.toNat).map .leaf)) fun e => Q (.own (.leaf .none)) e)
  | .popAt, .al v p, [b] => datK b env fun d => intK d fun i => lookK env v p fun l => lstK l fun ts => Sd (-(2 ^ 63) ≤ i ∧ i < 2 ^ 63) (DelP ts i fun d us => putK env v p (.lst us) fun e => Q (.own (.leaf d)) e)
  | _, _, _ => False
theorem wpM_eq {m : Mt} {r : R} {rs : List R} {env : Env} {Q : R → Env → Prop} (h : wpM m r rs env Q) : WM m r rs env Q := by
  unfold wpM at h
  split at h
  · obtain ⟨t, e1, h1, h⟩ := takeK_eq h
    obtain ⟨l, h2, h⟩ := lookK_eq h
    obtain ⟨ts, rfl, h⟩ := lstK_eq h
    obtain ⟨e, h3, h4⟩ := putK_eq h.a.k
    exact wm_append h1 h2 h.p h3 h4
  · obtain ⟨d, h1, h⟩ := shK_eq h
    split at h
    · obtain ⟨l, h2, h⟩ := lookK_eq h
      obtain ⟨ts, rfl, h⟩ := lstK_eq h
      obtain ⟨e, h3, h4⟩ := putK_eq h.a.k
      exact wm_extend h1 h2 h.p h3 h4
    · exact h.elim
  · obtain ⟨l, h2, h⟩ := lookK_eq h
    obtain ⟨ts, rfl, h⟩ := lstK_eq h
    obtain ⟨d, h3, h⟩ := h
    obtain ⟨e, h4, h⟩ := putK_eq h
    exact wm_pop h2 h3 h4 h
  · obtain ⟨y, h1, h⟩ := datK_eq h
    obtain ⟨i, rfl, h⟩ := intK_eq h
    obtain ⟨l, h2, h⟩ := lookK_eq h
    obtain ⟨ts, rfl, ds, h3, h⟩ := lstK_eq h
    obtain ⟨e, h5, h6⟩ := putK_eq h.a
    have h0 := h.p
    exact ⟨_, _, by unfold mtSem; simp only [h1, h2, h3]; rw [if_pos h0, h5]; rfl, h6⟩
  · obtain ⟨d, h1, h⟩ := datK_eq h
    obtain ⟨i, rfl, h⟩ := intK_eq h
    obtain ⟨l, h2, h⟩ := lookK_eq h
    obtain ⟨ts, rfl, h⟩ := lstK_eq h
    obtain ⟨h0, k, t, h3, h4, h⟩ := h
    obtain ⟨e, h5, h6⟩ := putK_eq h
    exact ⟨_, _, by unfold mtSem; simp [h1, h2, ixOf, h3, h4, h5]; exact h0, h6⟩
  · exact h.elim
/-! ### calls -/
def prepK (keep : Nat → Bool) : Nat → List R → Env → (List R → Env → Prop) → Prop
  | _, [], env, K => K [] env
  | j, .own t :: rs, env, K => prepK keep (j + 1) rs env fun qs e => K (.own t :: qs) e
  | j, .al i [] :: rs, env, K => (match keep j with
    | true => prepK keep (j + 1) rs env fun qs e => K (.al i [] :: qs) e
    | false => (match lk env i with
      | some t => dtK t fun d => stK env i (some (.leaf d)) fun e1 => prepK keep (j + 1) rs e1 fun qs e => K (.own (.leaf d) :: qs) e
      | none => False))
  | _, .al _ (_ :: _) :: _, _, _ => False
theorem prepK_eq {keep : Nat → Bool} : ∀ {j : Nat} {rs : List R} {env : Env} {K : List R → Env → Prop}, prepK keep j rs env K → ∃ qs e, prepArgs keep j rs env = some (qs, e) ∧ K qs e
  | j, [], env, K, h => ⟨[], env, rfl, h⟩
  | j, .own t :: rs, env, K, h => by
    obtain ⟨qs, e, h1, h⟩ := prepK_eq (rs := rs) h
    exact ⟨_, e, by unfold prepArgs; rw [h1], h⟩
  | j, .al i [] :: rs, env, K, h => by
    unfold prepK at h
    cases hk : keep j with
    | true =>
      rw [hk] at h
      obtain ⟨qs, e, h1, h⟩ := prepK_eq (rs := rs) h
      exact ⟨_, e, by unfold prepArgs; rw [if_pos hk, h1], h⟩
    | false =>
      rw [hk] at h
      simp only at h
      split at h
      · rename_i t h0
        obtain ⟨qs, e, h1, h⟩ := prepK_eq (rs := rs) (stK_eq (dtK_eq h)).2
        exact ⟨_, e, by unfold prepArgs; rw [if_neg (by rw [hk]; decide), lk_eq h0]; simp only; rw [h1], h⟩
      · exact h.elim
  | _, .al _ (_ :: _) :: _, _, _, h => h.elim
def argK (env : Env) : List R → (List OT → Prop) → Prop
  | [], K => K []
  | r :: rs, K => treeK r env fun t => argK env rs fun ts => K (t :: ts)
theorem argK_eq {env : Env} : ∀ {rs : List R} {K : List OT → Prop}, argK env rs K → ∃ ts, argTrees env rs = some ts ∧ K ts
  | [], K, h => ⟨[], rfl, h⟩
  | r :: rs, K, h => by
    obtain ⟨t, h1, h⟩ := treeK_eq h
    obtain ⟨ts, h2, h⟩ := argK_eq h
    exact ⟨t :: ts, by unfold argTrees; rw [h1]; simp only; rw [h2]; rfl, h⟩
def dropK : List R → Env → (Env → Prop) → Prop
  | [], env, K => K env
  | .own _ :: rs, env, K => dropK rs env K
  | .al i _ :: rs, env, K => stK env i none fun e => dropK rs e K
theorem dropK_eq : ∀ {rs : List R} {env : Env} {K : Env → Prop}, dropK rs env K → K (dropLent rs env)
  | [], env, K, h => h
  | .own _ :: rs, env, K, h => dropK_eq (rs := rs) h
  | .al i _ :: rs, env, K, h => dropK_eq (rs := rs) (stK_eq h).2
def giveK : List R → List (Option OT) → Env → (Env → Prop) → Prop
  | [], _, env, K => K env
  | .own _ :: rs, fin, env, K => giveK rs fin.tail env K
  | .al i _ :: rs, fin, env, K => (match fin with
    | t :: _ => stK env i t fun e => giveK rs fin.tail e K
    | [] => False)
theorem giveK_eq : ∀ {rs : List R} {fin : List (Option OT)} {env : Env} {K : Env → Prop}, fin.length = rs.length → giveK rs fin env K → K (giveBack rs fin env)
  | [], fin, env, K, hl, h => by
    cases fin with
    | nil => exact h
    | cons _ _ => cases hl
  | .own t :: rs, x :: fin, env, K, hl, h => giveK_eq (rs := rs) (fin := fin) (Nat.succ.inj hl) h
  | .al i p :: rs, x :: fin, env, K, hl, h => giveK_eq (rs := rs) (fin := fin) (Nat.succ.inj hl) (stK_eq h).2
  | .own _ :: _, [], _, _, hl, _ => nomatch hl
  | .al _ _ :: _, [], _, _, hl, _ => nomatch hl
theorem argTrees_len2 {env : Env} : ∀ {rs : List R} {ts : List OT}, argTrees env rs = some ts → ts.length = rs.length
  | [], ts, h => by cases h; rfl
  | r :: rs, ts, h => by
    unfold argTrees at h
    split at h
    · obtain ⟨us, h1, rfl⟩ := Option.map_eq_some_iff.mp h
      rw [List.length_cons, List.length_cons, argTrees_len2 h1]
    · cases h
def callK (Γ : Ctx) (f : Nat) (rs : List R) (env : Env) (Q : R → Env → Prop) : Prop :=
  prepK (Γ.keep f) 0 rs env fun qs e1 => yesK (nodupB (lent qs)) (argK e1 qs fun ts => CallP (Γ.fn f) ts fun t fin => dropK qs e1 fun e2 => giveK qs fin e2 fun e3 => Q (.own t) e3)
theorem callK_eq {Γ : Ctx} {f : Nat} {rs : List R} {env : Env} {Q : R → Env → Prop} (h : callK Γ f rs env Q) : WCl Γ f rs env Q := by
  obtain ⟨qs, e1, h1, h⟩ := prepK_eq h
  obtain ⟨hn, h⟩ := yesK_eq h
  obtain ⟨ts, h2, h⟩ := argK_eq h
  obtain ⟨t, fin, h3, hl, h⟩ := h
  exact wcl h1 hn h2 ⟨t, fin, h3, hl, giveK_eq (by rw [hl, argTrees_len2 h2]) (dropK_eq h)⟩
/-! ### walks -/
def srcK (w : Bool) (r : R) (env : Env) (K : Src → Nat → Prop) : Prop := match r with
  | .own (.leaf (.list ds)) => K (.fix (match w with | true => enumD 0 ds | false => ds)) ds.length
  | .own (.leaf (.tuple ds)) => K (.fix (match w with | true => enumD 0 ds | false => ds)) ds.length
  | .own (.lst ts) => LvP ts fun ds => K (.fix (match w with | true => enumD 0 ds | false => ds)) ds.length
  | .al i p => (match p with
    | [] => (match lk env i with
      | some (.lst ts) => K (.live i w) ts.length
      | _ => False)
    | _ :: _ => False)
  | _ => False
theorem srcK_eq {w : Bool} {r : R} {env : Env} {K : Src → Nat → Prop} (h : srcK w r env K) : ∃ s n, srcOf w r env = some (s, n) ∧ K s n := by
  unfold srcK at h
  split at h
  · exact ⟨_, _, by unfold srcOf; cases w <;> rfl, h⟩
  · exact ⟨_, _, by unfold srcOf; cases w <;> rfl, h⟩
  · obtain ⟨ds, h1, h⟩ := h
    exact ⟨_, _, by unfold srcOf; simp only; rw [h1]; cases w <;> rfl, h⟩
  · split at h
    · split at h
      · rename_i h1
        exact ⟨_, _, by unfold srcOf; simp only; rw [lk_eq h1], h⟩
      · exact h.elim
    · exact h.elim
  · exact h.elim
def In62 (i : Int) : Prop := -(2 ^ 62) ≤ i ∧ i < 2 ^ 62
def rangeK (ds : List D) (K : Src → Nat → Prop) : Prop := match ds with
  | [a] => intK a fun hi => Sd (In62 hi) (K (.fix (rangeD 0 hi.toNat)) hi.toNat)
  | [a, b] => i2K a b fun lo hi => Sd (In62 lo ∧ In62 hi) (K (.fix (rangeD lo (hi - lo).toNat)) (hi - lo).toNat)
  | _ => False
theorem rangeK_eq {ds : List D} {K : Src → Nat → Prop} (h : rangeK ds K) : ∃ s n, rangeSrc ds = some (s, n) ∧ K s n := by
  unfold rangeK at h
  split at h
  · obtain ⟨i, rfl, h⟩ := intK_eq h
    exact ⟨_, _, range1 h.p, h.a⟩
  · obtain ⟨i, j, rfl, rfl, h⟩ := i2K_eq h
    exact ⟨_, _, range2 h.p, h.a⟩
  · exact h.elim
def retK (r : R) (env : Env) (K : OT → Env → Prop) : Prop := match r with
  | .own t => K t env
  | .al i p => (match p with
    | [] => (match lk env i with
      | some t => stK env i none fun e => K t e
      | none => False)
    | _ :: _ => False)
def zipK (a b : OT) (K : Src → Nat → Prop) : Prop := match a, b with
  | .leaf (.tuple xs), .leaf (.tuple ys) => K (.fix (zipD xs ys)) (zipD xs ys).length
  | .leaf (.list xs), .leaf (.list ys) => K (.fix (zipD xs ys)) (zipD xs ys).length
  | .leaf (.list xs), .lst ts => LvP ts fun ys => K (.fix (zipD xs ys)) (zipD xs ys).length
  | .lst ts, .leaf (.list ys) => LvP ts fun xs => K (.fix (zipD xs ys)) (zipD xs ys).length
  | .lst ts, .lst us => LvP ts fun xs => LvP us fun ys => K (.fix (zipD xs ys)) (zipD xs ys).length
  | _, _ => False
theorem zipK_eq {a b : OT} {K : Src → Nat → Prop} (h : zipK a b K) : ∃ s n, (match a.sh, b.sh with
      | some (.list xs), some (.list ys) => some (Src.fix (zipD xs ys), (zipD xs ys).length)
      | some (.tuple xs), some (.tuple ys) => some (.fix (zipD xs ys), (zipD xs ys).length)
      | _, _ => none) = some (s, n) ∧ K s n := by
  unfold zipK at h
  split at h
  · exact ⟨_, _, rfl, h⟩
  · exact ⟨_, _, rfl, h⟩
  · obtain ⟨ys, h1, h⟩ := h
    exact ⟨_, _, by simp [OT.sh, h1], h⟩
  · obtain ⟨ys, h1, h⟩ := h
    exact ⟨_, _, by simp [OT.sh, h1], h⟩
  · obtain ⟨xs, h1, ys, h2, h⟩ := h
    exact ⟨_, _, by simp [OT.sh, h1, h2], h⟩
  · exact h.elim
/-- a slot that is there and holds nothing -/
def offK : Env → Nat → Prop → Prop
  | [], _, _ => False
  | none :: _, 0, A => A
  | some _ :: _, 0, _ => False
  | _ :: r, i + 1, A => offK r i A
theorem offK_eq : ∀ {e : Env} {v : Nat} {A : Prop}, offK e v A → e[v]? = some none ∧ A
  | none :: r, 0, A, h => ⟨rfl, h⟩
  | some _ :: _, 0, _, h => h.elim
  | x :: r, v + 1, A, h => by
    have h : offK r v A := by cases x <;> exact h
    exact offK_eq (e := r) h
  | [], _, _, h => h.elim
def aliK (i v : Nat) (g : Option (List L2.Key)) (ts : List OT) (j : Nat) (e2 : Env) (K : Env → Prop) : Prop := offK e2 v (match lk e2 i with
  | some (.nod g2 us) => stK e2 i none fun ea => SetP ts j (.nod g2 us) fun us' => stK ea v (some (.nod g us')) K
  | _ => False)
theorem aliK_eq {i v : Nat} {g : Option (List L2.Key)} {ts : List OT} {j : Nat} {e2 : Env} {K : Env → Prop} (h : aliK i v g ts j e2 K) : ∃ e3, aliOut i v g ts j e2 = some e3 ∧ K e3 := by
  obtain ⟨h1, h⟩ := offK_eq h
  split at h
  · rename_i g2 us h2
    have h2 := lk_eq h2
    obtain ⟨_, h⟩ := stK_eq h
    obtain ⟨_, h⟩ := stK_eq h.k
    exact ⟨_, by unfold aliOut; rw [h1, h2], h⟩
  · exact h.elim
/-! ### the text -/
mutual
def wpE (Γ : Ctx) : E → Env → (R → Env → Prop) → Prop
  | .var i, env, Q => (match lk env i with
    | some (.leaf d) => Q (.own (.leaf d)) env
    | some (.nod _ _) => Q (.al i []) env
    | none => False)
  | .c d, env, Q => Q (.own (.leaf d)) env
  | .op o as, env, Q => wpEs Γ as env fun rs e => wpO o rs e Q
  | .and a b, env, Q => wpE Γ a env fun r e => boolK r fun c => If2 c (wpE Γ b e Q) (Q (.own (.leaf (.bool false))) e)
  | .or a b, env, Q => wpE Γ a env fun r e => boolK r fun c => If2 c (Q (.own (.leaf (.bool true))) e) (wpE Γ b e Q)
  | .not a, env, Q => wpE Γ a env fun r e => boolK r fun c => Q (.own (.leaf (.bool (!c)))) e
  | .ite c a b, env, Q => wpE Γ c env fun r e => boolK r fun k => If2 k (wpE Γ a e Q) (wpE Γ b e Q)
  | .chain o p a b c, env, Q => wpE Γ a env fun ra e1 => noK (ra.deep && !b.quiet) (wpE Γ b e1 fun rb e2 => yesK (isFlat o && isFlat p) (datsK [ra, rb] e2 fun ds => wpF o ds fun d => boolK (.own (.leaf d)) fun k => If2 k (noK (rb.deep && !c.quiet) (wpE Γ c e2 fun rc e3 => datsK [rb, rc] e3 fun es => wpF p es fun d => Q (.own (.leaf d)) e3)) (Q (.own (.leaf (.bool false))) e2)))
  | .sl a lo hi, env, Q => wpE Γ a env fun r e => noK r.deep (wpP Γ lo e fun l e2 => wpP Γ hi e2 fun u e3 => wpSl r l u e3 Q)
  | .meth m o as, env, Q => wpE Γ o env fun r e1 => noK (r.deep && !as.quiet) (treeK r e1 fun t => lstK t fun _ => wpEs Γ as e1 fun rs e2 => wpM m r rs e2 Q)
  | .call f as kw perm, env, Q => wpEs Γ as env fun rs e1 => noK (anyDeep rs) (wpEs Γ kw e1 fun ks e2 => noK (anyDeep ks) (yesK (nodupB perm) (match pick (rs ++ ks) perm with
    | some qs => callK Γ f qs e2 Q
    | none => False)))
  | .comp elt t it cond own, env, Q => wpIt Γ it env fun s n e1 => CompP Γ elt t cond (own.map (·.2)) s n e1 Q
  | .dct ks vs, env, Q => wpEs Γ vs env fun rs e1 => takesK rs e1 fun ts e2 => yesK (decide (ks.length = ts.length)) (Q (.own (.nod (some ks) ts)) e2)
def wpEs (Γ : Ctx) : Es → Env → (List R → Env → Prop) → Prop
  | .nil, env, Q => Q [] env
  | .cons e es, env, Q => wpE Γ e env fun r e1 => noK (r.deep && !es.quiet) (wpEs Γ es e1 fun rs e2 => Q (r :: rs) e2)
def wpC (Γ : Ctx) : C → Env → (Bool → Env → Prop) → Prop
  | .non, env, Q => Q true env
  | .some e, env, Q => wpE Γ e env fun r e1 => boolK r fun b => Q b e1
def wpP (Γ : Ctx) : C → Env → (Option Int → Env → Prop) → Prop
  | .non, env, Q => Q none env
  | .some e, env, Q => wpE Γ e env fun r e1 => (match r with
    | .own (.leaf d) => intK d fun i => Q (some i) e1
    | _ => False)
def wpIt (Γ : Ctx) : It → Env → (Src → Nat → Env → Prop) → Prop
  | .seq e, env, Q => wpE Γ e env fun r e1 => srcK false r e1 fun s n => Q s n e1
  | .enum e, env, Q => wpE Γ e env fun r e1 => srcK true r e1 fun s n => Q s n e1
  | .range as, env, Q => wpEs Γ as env fun rs e1 => datsK rs e1 fun ds => rangeK ds fun s n => Q s n e1
  | .zip a b, env, Q => wpE Γ a env fun ra e1 => takeK ra e1 fun ta e2 => wpE Γ b e2 fun rb e3 => takeK rb e3 fun tb e4 => zipK ta tb fun s n => Q s n e4
def wpT (Γ : Ctx) : T → OT → Env → (Env → Prop) → Prop
  | .nm i, x, env, Q => stK env i (some x) Q
  | .tup ts, x, env, Q => (match x with
    | .leaf (.tuple ds) => wpTs Γ ts (ds.map .leaf) env Q
    | _ => False)
  | .sub o i, x, env, Q => wpE Γ o env fun r e1 => (match r with
    | .al v p => noK (!p.isEmpty && !i.quiet) (wpE Γ i e1 fun ri e2 => datK ri e2 fun y => lookK e2 v p fun l => (match l with
      | .nod none xs => intK y fun k => IxT xs k fun j _ => SetP xs j x fun us => putK e2 v p (.nod none us) Q
      | .nod (some ks) xs => DPutP ks xs y x fun ks' us => putK e2 v p (.nod (some ks') us) Q
      | .leaf _ => False))
    | _ => False)
def wpTs (Γ : Ctx) : Ts → List OT → Env → (Env → Prop) → Prop
  | .nil, xs, env, Q => (match xs with
    | [] => Q env
    | _ => False)
  | .cons t ts, xs, env, Q => (match xs with
    | x :: xs => wpT Γ t x env fun e => wpTs Γ ts xs e Q
    | [] => False)
end
mutual
def wpS (Γ : Ctx) : S → Env → (Out → Env → Prop) → Prop
  | .asg i e, env, Q => wpE Γ e env fun r e1 => takeK r e1 fun t e2 => stK e2 i (some t) fun e3 => Q .nx e3
  | .par ts es, env, Q => wpEs Γ es env fun rs e1 => takesK rs e1 fun xs e2 => wpTs Γ ts xs e2 fun e3 => Q .nx e3
  | .unp t e, env, Q => wpE Γ e env fun r e1 => takeK r e1 fun x e2 => wpT Γ (.tup t) x e2 fun e3 => Q .nx e3
  | .put o i e, env, Q => wpE Γ e env fun r e1 => takeK r e1 fun x e2 => wpT Γ (.sub o i) x e2 fun e3 => Q .nx e3
  | .ex e, env, Q => wpE Γ e env fun _ e1 => Q .nx e1
  | .ret e, env, Q => wpE Γ e env fun r e1 => retK r e1 fun t e2 => Q (.ret t) e2
  | .retN, env, Q => Q (.ret (.leaf .none)) env
  | .ife c a b, env, Q => wpE Γ c env fun r e1 => boolK r fun k => If2 k (wpSs Γ a e1 Q) (wpSs Γ b e1 Q)
  | .loop t it b, env, Q => wpIt Γ it env fun s n e1 => LoopP Γ t b s n e1 Q
  | .whl c b, env, Q => WhlP Γ c b env Q
  | .brk, env, Q => Q .bk env
  | .cont, env, Q => Q .ct env
  | .pass, env, Q => Q .nx env
def wpSs (Γ : Ctx) : Ss → Env → (Out → Env → Prop) → Prop
  | .nil, env, Q => Q .nx env
  | .cons s ss, env, Q => wpS Γ s env fun o e => (match o with
    | .nx => Bd (wpSs Γ ss e Q)
    | o => Q o e)
  | .ali i v key s ss, env, Q => noK (s.asgs.contains i || s.asgs.contains v) (match lk env v with
    | some (.nod g ts) => nodK g ts key fun j t => (match t with
      | .nod g1 us => yesK (decide (i ≠ v)) (stK env v none fun ea => stK ea i (some (.nod g1 us)) fun e1 => wpS Γ s e1 fun o e2 => aliK i v g ts j e2 fun e3 => (match o with
        | .nx => Bd (wpSs Γ ss e3 Q)
        | o => Q o e3))
      | .leaf _ => False)
    | _ => False)
end
theorem WB.of {Γ : Ctx} {a : E} {env : Env} {Q : Bool → Env → Prop} (h : WE Γ a env fun r e => boolK r fun c => Q c e) : WB Γ a env Q := by
  refine wb_of (h.mono fun r e h => ?_)
  obtain ⟨b, rfl, h⟩ := boolK_eq h
  exact ⟨b, rfl, h⟩
section
variable {Γ : Ctx}
theorem noK_mono {c : Bool} {A B : Prop} (h : noK c A) (f : A → B) : c = false ∧ B := ⟨(noK_eq h).1, f (noK_eq h).2⟩
mutual
theorem wpE_eq : ∀ (e : E) {env : Env} {Q : R → Env → Prop}, wpE Γ e env Q → WE Γ e env Q
  | .var i, env, Q, h => by
    unfold wpE at h
    split at h
    · rename_i h1; exact we_var (lk_eq h1) h
    · rename_i h1; exact we_varl (lk_eq h1) h
    · exact h.elim
  | .c d, env, Q, h => by unfold wpE at h; exact we_c h
  | .op o as, env, Q, h => by
    unfold wpE at h
    obtain ⟨rs, e, h1, h2⟩ := wpEs_eq as h
    exact we_op ⟨rs, e, h1, wpO_eq h2⟩
  | .and a b, env, Q, h => by
    unfold wpE at h
    obtain ⟨c, e, h1, h2⟩ := WB.of (wpE_eq a h)
    refine we_and ⟨c, e, h1, ?_⟩
    have := h2.elim
    cases c with
    | true => rw [if_pos rfl] at this ⊢; exact wpE_eq b this
    | false => exact this
  | .or a b, env, Q, h => by
    unfold wpE at h
    obtain ⟨c, e, h1, h2⟩ := WB.of (wpE_eq a h)
    refine we_or ⟨c, e, h1, ?_⟩
    have := h2.elim
    cases c with
    | true => exact this
    | false => rw [if_neg Bool.false_ne_true] at this ⊢; exact wpE_eq b this
  | .not a, env, Q, h => by
    unfold wpE at h
    exact we_not (WB.of (wpE_eq a h))
  | .ite c a b, env, Q, h => by
    unfold wpE at h
    obtain ⟨k, e, h1, h2⟩ := WB.of (wpE_eq c h)
    refine we_ite ⟨k, e, h1, ?_⟩
    have := h2.elim
    cases k with
    | true => rw [if_pos rfl] at this ⊢; exact wpE_eq a this
    | false => rw [if_neg Bool.false_ne_true] at this ⊢; exact wpE_eq b this
  | .chain o p a b c, env, Q, h => by
    unfold wpE at h
    obtain ⟨ra, e1, h1, h⟩ := wpE_eq a h
    obtain ⟨d1, h⟩ := noK_eq h
    obtain ⟨rb, e2, h2, h⟩ := wpE_eq b h
    obtain ⟨hf, h⟩ := yesK_eq h
    obtain ⟨ds, h3, h⟩ := datsK_eq h
    obtain ⟨d, h4, h⟩ := wpF_eq h
    obtain ⟨k, hk, h⟩ := boolK_eq h
    cases hk
    have := h.elim
    cases k with
    | true =>
      rw [if_pos rfl] at this
      obtain ⟨d2, this⟩ := noK_eq this
      obtain ⟨rc, e3, h5, h⟩ := wpE_eq c this
      obtain ⟨es, h6, h⟩ := datsK_eq h
      obtain ⟨d, h7, h⟩ := wpF_eq h
      refine ⟨_, _, ?_, h⟩
      unfold ev
      rw [h1]; simp only; rw [d1]; simp only [Bool.false_eq_true, if_false]; rw [h2]; simp only; rw [hf]; simp only [if_true]; rw [h3]; simp only; rw [h4]; simp only; rw [d2]; simp only [Bool.false_eq_true, if_false]; rw [h5]; simp only; rw [h6]; simp only; rw [h7]; rfl
    | false =>
      rw [if_neg Bool.false_ne_true] at this
      refine ⟨_, _, ?_, this⟩
      unfold ev
      rw [h1]; simp only; rw [d1]; simp only [Bool.false_eq_true, if_false]; rw [h2]; simp only; rw [hf]; simp only [if_true]; rw [h3]; simp only; rw [h4]
  | .sl a lo hi, env, Q, h => by
    unfold wpE at h
    obtain ⟨r, e, h1, h⟩ := wpE_eq a h
    obtain ⟨d1, h⟩ := noK_eq h
    obtain ⟨l, e2, h2, h⟩ := wpP_eq lo h
    obtain ⟨u, e3, h3, h⟩ := wpP_eq hi h
    exact we_sl ⟨r, e, h1, d1, l, e2, h2, u, e3, h3, wpSl_eq h⟩
  | .meth m o as, env, Q, h => by
    unfold wpE at h
    obtain ⟨r, e1, h1, h⟩ := wpE_eq o h
    obtain ⟨d1, h⟩ := noK_eq h
    obtain ⟨t, h2, h⟩ := treeK_eq h
    obtain ⟨ts, rfl, h⟩ := lstK_eq h
    obtain ⟨rs, e2, h3, h⟩ := wpEs_eq as h
    refine we_meth ⟨r, e1, h1, ?_, rs, e2, h3, wpM_eq h⟩
    rw [d1]
    unfold isListR R.dat
    rw [h2]; rfl
  | .call f as kw perm, env, Q, h => by
    unfold wpE at h
    obtain ⟨rs, e1, h1, h⟩ := wpEs_eq as h
    obtain ⟨d1, h⟩ := noK_eq h
    obtain ⟨ks, e2, h2, h⟩ := wpEs_eq kw h
    obtain ⟨d2, h⟩ := noK_eq h
    obtain ⟨hn, h⟩ := yesK_eq h
    split at h
    · rename_i qs hq
      exact we_call ⟨rs, e1, h1, d1, ks, e2, h2, d2, qs, hq, hn, callK_eq h⟩
    · exact h.elim
  | .comp elt t it cond own, env, Q, h => by
    unfold wpE at h
    obtain ⟨s, n, e1, h1, h⟩ := wpIt_eq it h
    obtain ⟨hf, ts, e2, h2, q⟩ := h
    exact ⟨_, _, ev_comp h1 hf h2, q⟩
  | .dct ks vs, env, Q, h => by
    unfold wpE at h
    obtain ⟨rs, e1, h1, h⟩ := wpEs_eq vs h
    obtain ⟨ts, e2, h2, h⟩ := takesK_eq h
    obtain ⟨h3, h⟩ := yesK_eq h
    exact ⟨_, _, by unfold ev; rw [h1]; simp only; rw [h2]; simp only; rw [if_pos (of_decide_eq_true h3)], h⟩
theorem wpEs_eq : ∀ (es : Es) {env : Env} {Q : List R → Env → Prop}, wpEs Γ es env Q → WEs Γ es env Q
  | .nil, env, Q, h => by unfold wpEs at h; exact wes_nil h
  | .cons e es, env, Q, h => by
    unfold wpEs at h
    obtain ⟨r, e1, h1, h⟩ := wpE_eq e h
    obtain ⟨d, h⟩ := noK_eq h
    exact wes_cons ⟨r, e1, h1, d, wpEs_eq es h⟩
theorem wpC_eq : ∀ (c : C) {env : Env} {Q : Bool → Env → Prop}, wpC Γ c env Q → WC Γ c env Q
  | .non, env, Q, h => by unfold wpC at h; exact wc_non h
  | .some e, env, Q, h => by unfold wpC at h; exact wc_some (WB.of (wpE_eq e h))
theorem wpP_eq : ∀ (c : C) {env : Env} {Q : Option Int → Env → Prop}, wpP Γ c env Q → WP Γ c env Q
  | .non, env, Q, h => by unfold wpP at h; exact wp_non h
  | .some e, env, Q, h => by
    unfold wpP at h
    refine wp_some ((wpE_eq e h).mono fun r e1 h => ?_)
    split at h
    · obtain ⟨i, rfl, h⟩ := intK_eq h
      exact ⟨i, rfl, h⟩
    · exact h.elim
theorem wpIt_eq : ∀ (it : It) {env : Env} {Q : Src → Nat → Env → Prop}, wpIt Γ it env Q → WI Γ it env Q
  | .seq e, env, Q, h => by
    unfold wpIt at h
    obtain ⟨r, e1, h1, h⟩ := wpE_eq e h
    obtain ⟨s, n, h2, h⟩ := srcK_eq h
    exact ⟨s, n, e1, by unfold evIt; rw [h1]; simp only; rw [h2]; rfl, h⟩
  | .enum e, env, Q, h => by
    unfold wpIt at h
    obtain ⟨r, e1, h1, h⟩ := wpE_eq e h
    obtain ⟨s, n, h2, h⟩ := srcK_eq h
    exact ⟨s, n, e1, by unfold evIt; rw [h1]; simp only; rw [h2]; rfl, h⟩
  | .range as, env, Q, h => by
    unfold wpIt at h
    obtain ⟨rs, e1, h1, h⟩ := wpEs_eq as h
    obtain ⟨ds, h2, h⟩ := datsK_eq h
    obtain ⟨s, n, h3, h⟩ := rangeK_eq h
    exact wi_range ⟨rs, e1, h1, ds, s, n, h2, h3, h⟩
  | .zip a b, env, Q, h => by
    unfold wpIt at h
    obtain ⟨ra, e1, h1, h⟩ := wpE_eq a h
    obtain ⟨ta, e2, h2, h⟩ := takeK_eq h
    obtain ⟨rb, e3, h3, h⟩ := wpE_eq b h
    obtain ⟨tb, e4, h4, h⟩ := takeK_eq h
    obtain ⟨s, n, h5, h⟩ := zipK_eq h
    refine ⟨s, n, e4, ?_, h⟩
    unfold evIt
    rw [h1]; simp only; rw [h2]; simp only; rw [h3]; simp only; rw [h4]; simp only
    split at h5
    · rename_i g1 g2; first | (rw [g1, g2]; simp only at h5 ⊢; cases h5; rfl) | (simp only at h5 ⊢; cases h5; rfl) | (cases h5; rfl)
    · rename_i g1 g2; first | (rw [g1, g2]; simp only at h5 ⊢; cases h5; rfl) | (simp only at h5 ⊢; cases h5; rfl) | (cases h5; rfl)
    · cases h5
theorem wpT_eq : ∀ (t : T) {x : OT} {env : Env} {Q : Env → Prop}, wpT Γ t x env Q → WT Γ t x env Q
  | .nm i, x, env, Q, h => by
    unfold wpT at h
    obtain ⟨h1, h⟩ := stK_eq h
    exact wt_nm (Nat.blt_eq.mpr h1) h
  | .tup ts, x, env, Q, h => by
    unfold wpT at h
    split at h
    · exact wt_tup (wpTs_eq ts h)
    · exact h.elim
  | .sub o i, x, env, Q, h => by
    unfold wpT at h
    obtain ⟨r, e1, h1, h⟩ := wpE_eq o h
    split at h
    · rename_i v p
      obtain ⟨d1, h⟩ := noK_eq h
      obtain ⟨ri, e2, h2, h⟩ := wpE_eq i h
      obtain ⟨y, h3, h⟩ := datK_eq h
      obtain ⟨l, h4, h⟩ := lookK_eq h
      have fin : ∀ {e3 : Env}, (match e2.look v p with
          | some (.nod g xs) => match posG g xs.length y with
            | some j => match roomG g with
              | true => e2.put v p (.nod g (xs.set j x))
              | false => none
            | none => match g with
              | some ks => match keyOf y with
                | some key => match roomG (some ks) with
                  | true => e2.put v p (.nod (some (ks ++ [key])) (xs ++ [x]))
                  | false => none
                | none => none
              | none => none
          | _ => none) = some e3 → Q e3 → WT Γ (.sub o i) x env Q := fun {e3} g1 q => by
        refine ⟨e3, ?_, q⟩
        unfold setT
        rw [h1]; simp only; rw [d1]; simp only [Bool.false_eq_true, if_false]; rw [h2]; simp only; rw [h3]
        exact g1
      rw [h4] at fin
      split at h
      · obtain ⟨k, rfl, j, u, h5, h6, h⟩ := intK_eq h
        obtain ⟨e3, h7, h⟩ := putK_eq h.k
        refine fin (e3 := e3) ?_ h
        simp only
        rw [show posG none _ (PyData.int k) = some j from h5]
        exact h7
      · obtain ⟨hr, key, hk, h | h⟩ := h
        · obtain ⟨j, h5, h⟩ := h
          obtain ⟨e3, h7, h⟩ := putK_eq h
          refine fin (e3 := e3) ?_ h
          simp only [posG, hk, h5, roomG, decide_eq_true hr]
          exact h7
        · obtain ⟨hp, h⟩ := h
          obtain ⟨e3, h7, h⟩ := putK_eq h
          refine fin (e3 := e3) ?_ h
          simp only [posG, hk, hp, roomG, decide_eq_true hr]
          exact h7
      · exact h.elim
    · exact h.elim
theorem wpTs_eq : ∀ (t : Ts) {xs : List OT} {env : Env} {Q : Env → Prop}, wpTs Γ t xs env Q → WTs Γ t xs env Q
  | .nil, xs, env, Q, h => by
    unfold wpTs at h
    split at h
    · exact wts_nil h
    · exact h.elim
  | .cons t ts, xs, env, Q, h => by
    unfold wpTs at h
    split at h
    · obtain ⟨e, h1, h⟩ := wpT_eq t h
      exact wts_cons ⟨e, h1, wpTs_eq ts h⟩
    · exact h.elim
end
theorem retK_eq {e : E} {env e1 : Env} {r : R} {Q : Out → Env → Prop} (h1 : ev Γ e env = some (r, e1)) (h : retK r e1 fun t e2 => Q (.ret t) e2) : WS Γ (.ret e) env Q := by
  unfold retK at h
  split at h
  · exact ⟨_, _, by unfold exec; rw [h1], h⟩
  · split at h
    · split at h
      · rename_i h2
        exact ⟨_, _, by unfold exec; rw [h1]; simp only; rw [lk_eq h2], (stK_eq h).2⟩
      · exact h.elim
    · exact h.elim
mutual
theorem wpS_eq : ∀ (s : S) {env : Env} {Q : Out → Env → Prop}, wpS Γ s env Q → WS Γ s env Q
  | .asg i e, env, Q, h => by
    unfold wpS at h
    obtain ⟨r, e1, h1, h⟩ := wpE_eq e h
    obtain ⟨t, e2, h2, h⟩ := takeK_eq h
    obtain ⟨h3, h⟩ := stK_eq h
    exact ws_asg ⟨r, e1, h1, t, e2, h2, Nat.blt_eq.mpr h3, h⟩
  | .par ts es, env, Q, h => by
    unfold wpS at h
    obtain ⟨rs, e1, h1, h⟩ := wpEs_eq es h
    obtain ⟨xs, e2, h2, h⟩ := takesK_eq h
    exact ws_par ⟨rs, e1, h1, xs, e2, h2, wpTs_eq ts h⟩
  | .unp t e, env, Q, h => by
    unfold wpS at h
    obtain ⟨r, e1, h1, h⟩ := wpE_eq e h
    obtain ⟨x, e2, h2, h⟩ := takeK_eq h
    exact ws_unp ⟨r, e1, h1, x, e2, h2, wpT_eq _ h⟩
  | .put o i e, env, Q, h => by
    unfold wpS at h
    obtain ⟨r, e1, h1, h⟩ := wpE_eq e h
    obtain ⟨x, e2, h2, h⟩ := takeK_eq h
    exact ws_put ⟨r, e1, h1, x, e2, h2, wpT_eq _ h⟩
  | .ex e, env, Q, h => by unfold wpS at h; exact ws_ex (wpE_eq e h)
  | .ret e, env, Q, h => by
    unfold wpS at h
    obtain ⟨r, e1, h1, h⟩ := wpE_eq e h
    exact retK_eq h1 h
  | .retN, env, Q, h => by unfold wpS at h; exact ws_retN h
  | .ife c a b, env, Q, h => by
    unfold wpS at h
    obtain ⟨k, e, h1, h2⟩ := WB.of (wpE_eq c h)
    refine ws_ife ⟨k, e, h1, ?_⟩
    have := h2.elim
    cases k with
    | true => rw [if_pos rfl] at this ⊢; exact wpSs_eq a this
    | false => rw [if_neg Bool.false_ne_true] at this ⊢; exact wpSs_eq b this
  | .loop t it b, env, Q, h => by
    unfold wpS at h
    obtain ⟨s, n, e1, h1, hf, o, e, h2, q⟩ := wpIt_eq it h
    refine ⟨o, e, ?_, q⟩
    unfold exec
    rw [h1]
    simp only
    rw [hf]
    exact h2
  | .whl c b, env, Q, h => by
    unfold wpS at h
    obtain ⟨o, e, h2, q⟩ := h
    exact ⟨o, e, by unfold exec; exact h2, q⟩
  | .brk, env, Q, h => by unfold wpS at h; exact ws_brk h
  | .cont, env, Q, h => by unfold wpS at h; exact ws_cont h
  | .pass, env, Q, h => by unfold wpS at h; exact ws_pass h
theorem wpSs_eq : ∀ (s : Ss) {env : Env} {Q : Out → Env → Prop}, wpSs Γ s env Q → WSs Γ s env Q
  | .nil, env, Q, h => by unfold wpSs at h; exact wss_nil h
  | .cons s ss, env, Q, h => by
    unfold wpSs at h
    refine wss_cons ((wpS_eq s h).mono fun o e h => ?_)
    cases o with
    | nx => exact wpSs_eq ss h.a
    | bk => exact h
    | ct => exact h
    | ret t => exact h
  | .ali i v key s ss, env, Q, h => by
    unfold wpSs at h
    obtain ⟨hc, h⟩ := noK_eq h
    split at h
    · rename_i g ts hv
      have hv := lk_eq hv
      obtain ⟨j, t, h1, h2, h⟩ := nodK_eq h
      split at h
      · rename_i g1 us
        obtain ⟨hn, h⟩ := yesK_eq h
        have hn := of_decide_eq_true hn
        obtain ⟨_, h⟩ := stK_eq h
        obtain ⟨hi, h⟩ := stK_eq h
        rw [List.length_set] at hi
        have ha : aliIn i v key env = some (g, ts, j, (env.set v none).set i (some (.nod g1 us))) := by
          unfold aliIn
          rw [hv]; simp only; rw [h1]; simp only; rw [h2]; simp only
          rw [if_pos ⟨hi, hn⟩]
        obtain ⟨o, e2, h3, h⟩ := wpS_eq s h
        obtain ⟨e3, h4, h⟩ := aliK_eq h
        have he : ∀ {o' e'}, (match o with
            | .nx => execs Γ ss e3
            | .bk => some (.bk, e3)
            | .ct => some (.ct, e3)
            | .ret t => some (.ret t, e3)) = some (o', e') → execs Γ (.ali i v key s ss) env = some (o', e') := fun q => by
          unfold execs
          rw [if_neg (by rw [hc]; decide), ha]; simp only; rw [h3]; simp only; rw [h4]
          exact q
        cases o with
        | nx =>
          obtain ⟨o', e', q1, q2⟩ := wpSs_eq ss h.a
          exact ⟨o', e', he q1, q2⟩
        | bk => exact ⟨_, _, he rfl, h⟩
        | ct => exact ⟨_, _, he rfl, h⟩
        | ret t => exact ⟨_, _, he rfl, h⟩
      · exact h.elim
    · exact h.elim
end
end
end PyI

/-! Rules for what must hold: choices, loops, comprehensions, defs. -/
namespace PyI
open PySem
theorem sizeLine_eq : sizeLine = 16777216 := rfl
/-! ### choices -/
theorem If2.tt {A B : Prop} (a : A) : If2 true A B := ⟨fun _ => a, (fun h => nomatch h)⟩
theorem If2.ff {A B : Prop} (b : B) : If2 false A B := ⟨(fun h => nomatch h), fun _ => b⟩
theorem If2.d {p : Prop} [Decidable p] {A B : Prop} (a : p → A) (b : ¬p → B) : If2 (decide p) A B := ⟨fun h => a (of_decide_eq_true h), fun h => b (of_decide_eq_false h)⟩
theorem If2.n {p : Prop} [Decidable p] {A B : Prop} (a : ¬p → A) (b : p → B) : If2 (!decide p) A B := ⟨fun h => a (by simpa using h), fun h => b (by simpa using h)⟩
theorem If2.dt {p : Prop} [Decidable p] {A B : Prop} (h : p) (a : A) : If2 (decide p) A B := If2.d (fun _ => a) fun q => (q h).elim
theorem If2.df {p : Prop} [Decidable p] {A B : Prop} (h : ¬p) (b : B) : If2 (decide p) A B := If2.d (fun q => (h q).elim) fun _ => b
theorem If2.nt {p : Prop} [Decidable p] {A B : Prop} (h : ¬p) (a : A) : If2 (!decide p) A B := If2.n (fun _ => a) fun q => (h q).elim
theorem If2.nf {p : Prop} [Decidable p] {A B : Prop} (h : p) (b : B) : If2 (!decide p) A B := If2.n (fun q => (q h).elim) fun _ => b
theorem If2.nn {c : Bool} {A B : Prop} (h : If2 c B A) : If2 (!c) A B := by
  cases c
  · exact ⟨fun _ => h.f rfl, (fun q => by cases q)⟩
  · exact ⟨(fun q => by cases q), fun _ => h.t rfl⟩
theorem If2.to {c : Bool} {A B : Prop} (h : c = true) (a : A) : If2 c A B := ⟨fun _ => a, (fun q => by rw [h] at q; cases q)⟩
theorem If2.fo {c : Bool} {A B : Prop} (h : c = false) (b : B) : If2 c A B := ⟨fun q => (by rw [h] at q; cases q), fun _ => b⟩
/-! ### facts -/
theorem EqP.int {i j : Int} {K : Bool → Prop} (k : K (decide (i = j))) : EqP (.int i) (.int j) K := ⟨rfl, rfl, by rw [eqv_int]; exact k⟩
theorem EqP.nil {xs : List D} {K : Bool → Prop} (h : SeqAt.shaped (.list xs) = true) (k : K xs.isEmpty) : EqP (.list xs) (.list []) K := ⟨h, rfl, by rw [show PyData.eqv (.list xs) (.list []) = xs.isEmpty by unfold PyData.eqv; cases xs <;> simp [PyData.eqvAll]]; exact k⟩
theorem EqP.nilt {xs : List D} {K : Bool → Prop} (h : SeqAt.shaped (.tuple xs) = true) (k : K xs.isEmpty) : EqP (.tuple xs) (.tuple []) K := ⟨h, rfl, by rw [show PyData.eqv (.tuple xs) (.tuple []) = xs.isEmpty by unfold PyData.eqv; cases xs <;> simp [PyData.eqvAll]]; exact k⟩
theorem EqP.self {d : D} {K : Bool → Prop} {n m : Nat} (h : Pl n m d) (hn : n ≤ 64) (k : K true) : EqP d d K := ⟨h.shaped hn, h.shaped hn, by rw [eqv_self h]; exact k⟩
theorem EqP.shown {d : D} {K : Bool → Prop} {n m : Nat} (h : Pl n m d) (k : K true) : EqP (.str d.shown) (.str d.shown) K := ⟨h.text, h.text, by rw [eqv_str]; exact k⟩
theorem EqP.of {a b : D} {K : Bool → Prop} {n m n' m' : Nat} (h : Pl n m a) (hn : n ≤ 64) (h' : Pl n' m' b) (hn' : n' ≤ 64) (k : K (PyData.eqv a b)) : EqP a b K := ⟨h.shaped hn, h'.shaped hn', k⟩
theorem IsP.of {c : String} {d : D} {K : Bool → Prop} {b : Bool} (h : isA c d = some b) (k : K b) : IsP c d K := ⟨b, h, k⟩
theorem leaves_leafs : ∀ ds : List D, leaves (ds.map .leaf) = some ds
  | [] => rfl
  | d :: ds => by show (leaves (ds.map .leaf)).map (d :: ·) = _; rw [leaves_leafs ds]; rfl
theorem LvP.of {ds : List D} {K : List D → Prop} (k : K ds) : LvP (ds.map .leaf) K := ⟨ds, leaves_leafs ds, k⟩
/-- leaves one by one -/
def lvK : List OT → (List D → Prop) → Prop
  | [], K => K []
  | .leaf d :: r, K => lvK r fun ds => K (d :: ds)
  | .nod _ _ :: _, _ => False
theorem lvK_eq : ∀ {ts : List OT} {K : List D → Prop}, lvK ts K → LvP ts K
  | [], K, h => ⟨[], rfl, h⟩
  | .leaf d :: r, K, h => by
    obtain ⟨ds, h1, h⟩ := lvK_eq (ts := r) h
    exact ⟨d :: ds, by show (leaves r).map (d :: ·) = _; rw [h1]; rfl, h⟩
theorem ints_mapG {α : Type} {g : α → Int} : ∀ xs : List α, ints? (xs.map fun x => .int (g x)) = some (xs.map g)
  | [] => rfl
  | x :: xs => by show (ints? (xs.map fun x => .int (g x))).map (g x :: ·) = _; rw [ints_mapG xs]; rfl
theorem IntsP.of {α : Type} {xs : List α} {g : α → Int} {K : List Int → Prop} (k : K (xs.map g)) : IntsP (xs.map fun x => .int (g x)) K := ⟨xs.map g, ints_mapG xs, k⟩
theorem IntsP.ints {ns : List Int} {K : List Int → Prop} (k : K ns) : IntsP (ns.map .int) K := ⟨ns, by have := ints_mapG (g := id) ns; rw [List.map_id] at this; exact this, k⟩
theorem bools_mapG {α : Type} {g : α → Bool} : ∀ xs : List α, bools? (xs.map fun x => .bool (g x)) = some (xs.map g)
  | [] => rfl
  | x :: xs => by show (bools? (xs.map fun x => .bool (g x))).map (g x :: ·) = _; rw [bools_mapG xs]; rfl
theorem BoolsP.of {α : Type} {xs : List α} {g : α → Bool} {K : List Bool → Prop} (k : K (xs.map g)) : BoolsP (xs.map fun x => .bool (g x)) K := ⟨xs.map g, bools_mapG xs, k⟩
theorem dats_leafs : ∀ xs : List D, OT.dats (xs.map .leaf) = xs
  | [] => rfl
  | x :: r => by
    show x :: OT.dats (r.map .leaf) = _
    rw [dats_leafs r]
theorem DtP.of {ds : List D} {K : D → Prop} (k : K (.list ds)) : DtP (ds.map .leaf) K := ⟨by rw [dats_leafs]; exact k⟩
theorem DtP.norm {ts : List OT} {K : D → Prop} (k : dtsK ts fun ds => K (.list ds)) : DtP ts K := ⟨dtsK_eq (K := fun ds => K (.list ds)) k⟩
theorem ints_map2 : ∀ ns : List Int, ints? (ns.map .int) = some ns
  | [] => rfl
  | n :: r => by show (ints? (r.map PyData.int)).map (n :: ·) = _; rw [ints_map2 r]; rfl
theorem pairs_map2 : ∀ ps : List (Int × Int), pairs? (ps.map prD) = some ps
  | [] => rfl
  | p :: r => by show (pairs? (r.map prD)).map (p :: ·) = _; rw [pairs_map2 r]; rfl
theorem MinP.ints {f : List Int → Option Int} {ns : List Int} {m : Int} {K : Int → Prop} (h : f ns = some m) (k : K m) : MinP f (ns.map .int) K := ⟨ns, m, ints_map2 ns, h, k⟩
theorem LenP.map {α : Type} {f : α → D} {xs : List α} {K : Int → Prop} (k : K xs.length) : LenP (xs.map f) K := ⟨by rw [List.length_map]; exact k⟩
theorem LenP.any {xs : List D} {K : Int → Prop} (k : K xs.length) : LenP xs K := ⟨k⟩
theorem SrtP.ints {ns : List Int} {K : List D → Prop} (k : K ((sortI ns).map .int)) : SrtP (ns.map .int) K := ⟨_, by unfold sortD; rw [ints_map2], k⟩
theorem SrtP.prs {ps : List (Int × Int)} {K : List D → Prop} (k : K ((sortP ps).map prD)) : SrtP (ps.map prD) K := ⟨_, by
  unfold sortD
  cases ps with
  | nil => rfl
  | cons p r =>
    rw [show ints? ((p :: r).map prD) = none from rfl]
    simp only
    rw [pairs_map2], k⟩
/-! ### items -/
theorem ixN_nat {n k : Nat} (h : k < n) : L2.ixN n (k : Int) = some k := by
  unfold L2.ixN
  rw [if_pos (by omega), if_pos (by omega)]
  congr 1
theorem IxD.nat {ds : List D} {i : Int} {K : D → Prop} (k : Nat) (d : D) (hi : i = k) (hd : ds[k]? = some d) (q : K d) : IxD ds i K := ⟨k, d, by rw [hi]; exact ixN_nat (List.getElem?_eq_some_iff.mp hd).1, hd, q⟩
theorem IxD.last {ds : List D} {K : D → Prop} (d : D) (hd : ds[ds.length - 1]? = some d) (q : K d) : IxD ds (-1) K := by
  have h0 := (List.getElem?_eq_some_iff.mp hd).1
  refine ⟨ds.length - 1, d, ?_, hd, q⟩
  unfold L2.ixN
  rw [if_neg (by decide), if_pos (by omega)]
  congr 1
  omega
theorem IxD.lit {ds : List D} {i : Int} {K : D → Prop} (k : Nat) (d : D) (hk : L2.ixN ds.length i = some k) (hd : ds[k]? = some d) (q : K d) : IxD ds i K := ⟨k, d, hk, hd, q⟩
theorem IxT.lit {ds : List OT} {i : Int} {K : Nat → OT → Prop} (k : Nat) (d : OT) (hk : L2.ixN ds.length i = some k) (hd : ds[k]? = some d) (q : K k d) : IxT ds i K := ⟨k, d, hk, hd, q⟩
theorem IxT.nat {ds : List OT} {i : Int} {K : Nat → OT → Prop} (k : Nat) (d : OT) (hi : i = k) (hd : ds[k]? = some d) (q : K k d) : IxT ds i K := ⟨k, d, by rw [hi]; exact ixN_nat (List.getElem?_eq_some_iff.mp hd).1, hd, q⟩
theorem IxT.leaf {ds : List D} {i : Int} {K : Nat → OT → Prop} (h : IxD ds i fun d => ∀ k : Nat, i = (k : Int) ∨ i < 0 → K k (.leaf d)) : IxT (ds.map .leaf) i K := by
  obtain ⟨k, d, h1, h2, h3⟩ := h
  refine ⟨k, .leaf d, by rw [List.length_map]; exact h1, by rw [List.getElem?_map, h2]; rfl, h3 k ?_⟩
  unfold L2.ixN at h1
  split at h1
  · split at h1
    · left; cases h1; omega
    · cases h1
  · right; omega
theorem AtP.of {t u : OT} {p : List Nat} {K : OT → Prop} (h : t.at? p = some u) (k : K u) : AtP t p K := ⟨u, h, k⟩
theorem PutP.of {t u n : OT} {p : List Nat} {K : OT → Prop} (h : t.put p n = some u) (k : K u) : PutP t p n K := ⟨u, h, k⟩
theorem SnocP.leaf {ds : List D} {d : D} {K : List OT → Prop} (k : K ((ds ++ [d]).map .leaf)) : SnocP (ds.map .leaf) (.leaf d) K := ⟨by rw [List.map_append] at k; exact k⟩
def snocK : List OT → OT → (List OT → Prop) → Prop
  | [], t, K => K [t]
  | x :: r, t, K => snocK r t fun us => K (x :: us)
theorem snocK_eq : ∀ {ts : List OT} {t : OT} {K : List OT → Prop}, snocK ts t K → SnocP ts t K
  | [], _, _, h => ⟨h⟩
  | x :: r, _, _, h => ⟨(snocK_eq (ts := r) h).k⟩
theorem SnocP.nil {t : OT} {K : List OT → Prop} (k : K [t]) : SnocP [] t K := ⟨k⟩
theorem ExtP.leaf {ds es : List D} {K : List OT → Prop} (k : K ((ds ++ es).map .leaf)) : ExtP (ds.map .leaf) es K := ⟨by rw [List.map_append] at k; exact k⟩
theorem PopP.snoc {ds : List D} {d : D} {K : D → List OT → Prop} (k : K d (ds.map .leaf)) : PopP ((ds ++ [d]).map .leaf) K := ⟨d, by simp, by simpa using k⟩
theorem PopP.eq {ts : List OT} (ds : List D) (d : D) {K : D → List OT → Prop} (h : ts = (ds ++ [d]).map .leaf) (k : K d (ds.map .leaf)) : PopP ts K := by
  subst h
  exact PopP.snoc k
theorem erase_map {α β : Type} (f : α → β) : ∀ (xs : List α) (k : Nat), (xs.map f).eraseIdx k = (xs.eraseIdx k).map f
  | [], _ => by simp
  | x :: r, 0 => by simp
  | x :: r, k + 1 => by simp [erase_map f r k]
theorem DelP.leaf {ds : List D} {i : Int} {K : D → List OT → Prop} (k : Nat) (d : D) (hi : i = k) (hd : ds[k]? = some d) (q : K d ((ds.eraseIdx k).map .leaf)) : DelP (ds.map .leaf) i K := ⟨k, d, by rw [hi, List.length_map]; exact ixN_nat (List.getElem?_eq_some_iff.mp hd).1, by rw [List.getElem?_map, hd]; rfl, by rw [erase_map]; exact q⟩
/-! ### places and keys -/
theorem SetP.any {xs : List OT} {j : Nat} {x : OT} {K : List OT → Prop} (k : K (xs.set j x)) : SetP xs j x K := ⟨k⟩
theorem set_mapD {α β : Type} (f : α → β) (a : α) : ∀ (xs : List α) (k : Nat), (xs.map f).set k (f a) = (xs.set k a).map f
  | [], _ => rfl
  | x :: r, 0 => rfl
  | x :: r, k + 1 => by show f x :: (r.map f).set k (f a) = _; rw [set_mapD f a r k]; rfl
theorem SetP.leaf {ds : List D} {j : Nat} {d : D} {K : List OT → Prop} (k : K ((ds.set j d).map .leaf)) : SetP (ds.map .leaf) j (.leaf d) K := ⟨by rw [set_mapD]; exact k⟩
def setK : List OT → Nat → OT → (List OT → Prop) → Prop
  | [], _, _, K => K []
  | _ :: r, 0, x, K => K (x :: r)
  | y :: r, j + 1, x, K => setK r j x fun us => K (y :: us)
theorem setK_eq : ∀ {xs : List OT} {j : Nat} {x : OT} {K : List OT → Prop}, setK xs j x K → SetP xs j x K
  | [], _, _, _, h => ⟨h⟩
  | _ :: _, 0, _, _, h => ⟨h⟩
  | y :: r, j + 1, x, K, h => ⟨(setK_eq (xs := r) h).k⟩
theorem KeyP.at {ks : List L2.Key} {y : D} {K : Nat → Prop} (j : Nat) {k : L2.Key} (h : keyOf y = some k) (g : posK ks k = some j) (q : K j) : KeyP ks y K := ⟨k, j, h, g, q⟩
theorem NthP.at {ts : List OT} {k : Nat} {t : OT} {K : OT → Prop} (h : ts[k]? = some t) (q : K t) : NthP ts k K := ⟨t, h, q⟩
theorem DPutP.at {ks : List L2.Key} {xs : List OT} {y : D} {x : OT} {K : List L2.Key → List OT → Prop} (j : Nat) {k : L2.Key} (hr : ks.length < sizeLine) (h : keyOf y = some k) (g : posK ks k = some j) (q : SetP xs j x (K ks)) : DPutP ks xs y x K := ⟨hr, k, h, .inl ⟨j, g, q.k⟩⟩
theorem DPutP.new {ks : List L2.Key} {xs : List OT} {y : D} {x : OT} {K : List L2.Key → List OT → Prop} {k : L2.Key} (hr : ks.length < sizeLine) (h : keyOf y = some k) (g : posK ks k = none) (q : SnocP xs x (K (ks ++ [k]))) : DPutP ks xs y x K := ⟨hr, k, h, .inr ⟨g, q.k⟩⟩
theorem DicP.at {kvs : List (D × D)} {y d : D} {K : D → Prop} (h : ixLeaf (.dict kvs) y = some d) (q : K d) : DicP kvs y K := ⟨d, h, q⟩
/-- a dict's data, key by key -/
def zpK : List L2.Key → List D → (List (D × D) → Prop) → Prop
  | [], _, K => K []
  | _ :: _, [], K => K []
  | k :: ks, d :: ds, K => zpK ks ds fun r => K ((keyD k, d) :: r)
theorem zpK_eq : ∀ {ks : List L2.Key} {ds : List D} {K : List (D × D) → Prop}, zpK ks ds K → K ((ks.map keyD).zip ds)
  | [], _, _, h => by rw [List.map_nil, List.zip_nil_left]; exact h
  | _ :: _, [], _, h => by rw [List.zip_nil_right]; exact h
  | k :: ks, d :: ds, K, h => zpK_eq (ks := ks) (ds := ds) (K := fun r => K ((keyD k, d) :: r)) h
theorem DdP.norm {ks : List L2.Key} {ts : List OT} {K : D → Prop} (k : dtsK ts fun ds => zpK ks ds fun r => K (.dict r)) : DdP ks ts K := ⟨zpK_eq (K := fun r => K (.dict r)) (dtsK_eq (K := fun ds => zpK ks ds fun r => K (.dict r)) k)⟩
/-! ### slots changed -/
def allV : Nat → (List (Option OT) → Prop) → Prop
  | 0, K => K []
  | n + 1, K => ∀ x, allV n fun l => K (x :: l)
theorem allV_eq : ∀ {l : List (Option OT)} {K : List (Option OT) → Prop}, allV l.length K → K l
  | [], K, h => h
  | x :: l, K, h => allV_eq (l := l) (h x)
def lkO (e : Env) (i : Nat) : Option OT := lk e i
def getsL (vs : List Nat) (e : Env) : List (Option OT) := match vs with
  | [] => []
  | v :: vs => lk e v :: getsL vs e
theorem getsL_len {e : Env} : ∀ vs : List Nat, (getsL vs e).length = vs.length
  | [] => rfl
  | v :: vs => by show (getsL vs e).length + 1 = _; rw [getsL_len vs]; rfl
def setsK : List Nat → List (Option OT) → Env → (Env → Prop) → Prop
  | [], _, env, K => K env
  | _ :: _, [], _, _ => False
  | i :: is, x :: xs, env, K => stK env i x fun e => setsK is xs e K
/-- unchanged but there -/
structure Rel (vs : List Nat) (a b : Env) : Prop where
  len : b.length = a.length
  out : ∀ i, i ∉ vs → b[i]? = a[i]?
theorem Rel.refl (vs : List Nat) (a : Env) : Rel vs a a := ⟨rfl, fun _ _ => rfl⟩
theorem Rel.trans {vs : List Nat} {a b c : Env} (h : Rel vs a b) (q : Rel vs b c) : Rel vs a c := ⟨q.len.trans h.len, fun i hi => (q.out i hi).trans (h.out i hi)⟩
theorem lk_get : ∀ {e : Env} {i : Nat}, lk e i = (e[i]?).getD none
  | [], _ => rfl
  | x :: r, 0 => rfl
  | x :: r, i + 1 => lk_get (e := r)
theorem Rel.mono {vs ws : List Nat} {a b : Env} (h : Rel vs a b) (q : ∀ i ∈ vs, i ∈ ws) : Rel ws a b := ⟨h.len, fun i hi => h.out i fun z => hi (q i z)⟩
theorem set_lk {e : Env} {i : Nat} : e.set i (lk e i) = e := by
  rw [lk_get]
  by_cases h : i < e.length
  · rw [List.getElem?_eq_getElem h]
    exact List.set_getElem_self h
  · rw [List.set_eq_of_length_le (by omega)]
theorem rel_set {vs : List Nat} {a b : Env} {v : Nat} (h : Rel (v :: vs) a b) : Rel vs (a.set v (lk b v)) b := by
  refine ⟨by rw [List.length_set]; exact h.len, fun i hi => ?_⟩
  rw [List.getElem?_set]
  split
  · rename_i c; subst c
    split
    · rename_i hv
      rw [lk_get, List.getElem?_eq_getElem (by rw [h.len]; exact hv)]
      rfl
    · rename_i hv
      rw [List.getElem?_eq_none (by rw [h.len]; omega)]
  · rename_i c
    exact h.out i fun z => by
      rcases List.mem_cons.mp z with z | z
      · exact c z.symm
      · exact hi z
theorem setsK_eq : ∀ {vs : List Nat} {a b : Env} {K : Env → Prop}, Rel vs a b → (setsK vs (getsL vs b) a K) → K b
  | [], a, b, K, h, q => by
    have : a = b := List.ext_getElem? fun i => (h.out i (fun z => nomatch z)).symm
    rw [← this]; exact q
  | v :: vs, a, b, K, h, q => setsK_eq (rel_set h) (stK_eq q).2
theorem setsK_app : ∀ {vs ws : List Nat} {l j : List (Option OT)} {a : Env} {K : Env → Prop}, l.length = vs.length → (setsK vs l a fun e => setsK ws j e K) → setsK (vs ++ ws) (l ++ j) a K
  | [], ws, [], j, a, K, _, h => h
  | v :: vs, ws, x :: l, j, a, K, hl, h => by
    have go : ∀ (r : Env) (i : Nat) (x : Option OT) (K K' : Env → Prop), (∀ e, K e → K' e) → stK r i x K → stK r i x K' := by
      intro r
      induction r with
      | nil => intro i x K K' _ h; exact h
      | cons y r ih =>
        intro i x K K' hk h
        cases i with
        | zero => exact hk _ h
        | succ i => exact ih i x _ _ (fun e he => hk _ he) h
    exact go a v x _ _ (fun e he => setsK_app (Nat.succ.inj hl) he) h
  | [], _, _ :: _, _, _, _, hl, _ => nomatch hl
  | _ :: _, _, [], _, _, _, hl, _ => nomatch hl
/-- slots that mean nothing -/
def setsJ : List Nat → (Nat → Option OT) → Env → (Env → Prop) → Prop
  | [], _, env, K => K env
  | i :: is, j, env, K => stK env i (j i) fun e => setsJ is j e K
theorem stK_mono0 : ∀ {env : Env} {i : Nat} {v : Option OT} {K K' : Env → Prop}, (∀ e, K e → K' e) → stK env i v K → stK env i v K'
  | [], _, _, _, _, _, h => h
  | _ :: _, 0, _, _, _, f, h => f _ h
  | _ :: r, i + 1, _, _, _, f, h => stK_mono0 (env := r) (fun e he => f _ he) h
theorem setsJ_eq : ∀ {is : List Nat} {e b : Env} {K : Env → Prop}, setsJ is (lk b) e K → setsK is (getsL is b) e K
  | [], _, _, _, h => h
  | i :: is, e, b, K, h => stK_mono0 (fun e h => setsJ_eq (is := is) h) h
theorem setsK_mono : ∀ {is : List Nat} {l : List (Option OT)} {e : Env} {K K' : Env → Prop}, (∀ e, K e → K' e) → setsK is l e K → setsK is l e K'
  | [], _, _, _, _, f, h => f _ h
  | _ :: _, [], _, _, _, _, h => h
  | i :: is, x :: l, _, _, _, f, h => stK_mono0 (fun e h => setsK_mono (is := is) f h) h
theorem getsL_app {e : Env} : ∀ (vs ws : List Nat), getsL (vs ++ ws) e = getsL vs e ++ getsL ws e
  | [], ws => rfl
  | v :: vs, ws => by show lk e v :: getsL (vs ++ ws) e = _; rw [getsL_app vs ws]; rfl
def Agree (ws : List Nat) : Nat → Env → Env → Prop
  | _, [], [] => True
  | i, x :: r, y :: s => (match ws.contains i with
    | true => True
    | false => y = x) ∧ Agree ws (i + 1) r s
  | _, _, _ => False
theorem Agree.rel {ws : List Nat} : ∀ {i : Nat} {a b : Env}, Agree ws i a b → b.length = a.length ∧ ∀ k, (i + k) ∉ ws → b[k]? = a[k]?
  | i, [], [], _ => ⟨rfl, fun _ _ => rfl⟩
  | i, x :: r, y :: s, ⟨h1, h2⟩ => by
    obtain ⟨q1, q2⟩ := Agree.rel h2
    refine ⟨by rw [List.length_cons, List.length_cons, q1], fun k hk => ?_⟩
    cases k with
    | zero =>
      have : ws.contains i = false := by
        cases hc : ws.contains i with
        | false => rfl
        | true => exact absurd (List.contains_iff_mem.mp hc) hk
      rw [this] at h1
      simp only [List.getElem?_cons_zero]
      rw [show y = x from h1]
    | succ k =>
      simp only [List.getElem?_cons_succ]
      exact q2 k (by rw [show i + 1 + k = i + (k + 1) by omega]; exact hk)
  | _, [], _ :: _, h => h.elim
  | _, _ :: _, [], h => h.elim
structure AgP (ws : List Nat) (a b : Env) (A : Prop) : Prop where
  g : Agree ws 0 a b
  a : A
theorem AgP.rel {ws : List Nat} {a b : Env} {A : Prop} (h : AgP ws a b A) : Rel ws a b := ⟨h.g.rel.1, fun i hi => h.g.rel.2 i (by rw [Nat.zero_add]; exact hi)⟩
/-! ### for -/
def OutP (o : Out) (A : Prop) (B : Prop) (C : OT → Prop) : Prop := match o with
  | .nx => A
  | .ct => A
  | .bk => B
  | .ret u => C u
def jsOf (vs : List Nat) : List Nat → List Nat
  | [] => []
  | i :: r => match vs.contains i || r.contains i with
    | true => jsOf vs r
    | false => i :: jsOf vs r
theorem jsOf_mem {vs : List Nat} : ∀ {as : List Nat} {i : Nat}, i ∈ as → i ∈ vs ++ jsOf vs as
  | j :: r, i, h => by
    unfold jsOf
    by_cases c : (vs.contains j || r.contains j) = true
    · rw [c]
      simp only
      rcases List.mem_cons.mp h with e | h
      · subst e
        rcases Bool.or_eq_true_iff.mp c with c | c
        · exact List.mem_append_left _ (List.contains_iff_mem.mp c)
        · exact jsOf_mem (List.contains_iff_mem.mp c)
      · exact jsOf_mem h
    · rw [Bool.not_eq_true] at c
      rw [c]
      simp only
      rcases List.mem_cons.mp h with e | h
      · rw [e]; exact List.mem_append_right _ List.mem_cons_self
      · rcases List.mem_append.mp (jsOf_mem (vs := vs) h) with z | z
        · exact List.mem_append_left _ z
        · exact List.mem_append_right _ (List.mem_cons_of_mem _ z)
/-- the items that a source gives in a state -/
def Src.gives (s : Src) (ds : List D) (e : Env) (ws : List Nat) : Prop := match s with
  | .fix es => es = ds
  | .live i w => ws.contains i = false ∧ ∃ es : List D, lk e i = some (.lst (es.map .leaf)) ∧ (match w with
    | true => enumD 0 es
    | false => es) = ds
theorem gives_get {s : Src} {ds : List D} {e0 e : Env} {ws : List Nat} (h : s.gives ds e0 ws) (r : Rel ws e0 e) (j : Nat) : s.get j e = some ds[j]? := by
  cases s with
  | fix es => cases h; rfl
  | live i w =>
    obtain ⟨h1, es, h2, h3⟩ := h
    have hi : i ∉ ws := fun z => by rw [List.contains_iff_mem.mpr z] at h1; cases h1
    have h4 : e[i]? = some (some (.lst (es.map .leaf))) := (r.out i hi).trans (lk_eq h2)
    unfold Src.get
    simp only
    rw [h4]
    simp only
    cases w with
    | false =>
      simp only at h3
      subst h3
      rw [List.getElem?_map]
      cases hq : es[j]? with
      | none => rfl
      | some d => rfl
    | true =>
      simp only at h3
      subst h3
      rw [List.getElem?_map, PyI.enumD_get]
      cases hq : es[j]? with
      | none => rfl
      | some d => simp [wrapAt]
theorem for_core {Γ : Ctx} {t : T} {b : Ss} {s : Src} {n : Nat} {e0 : Env} {Q : Out → Env → Prop} {ds : List D} {ws : List Nat} (hn : n = ds.length) (hg : s.gives ds e0 ws) (J : List D → List D → Env → Prop) (h0 : J [] ds e0)
    (hs : ∀ pre d r e, ds = pre ++ d :: r → Rel ws e0 e → J pre (d :: r) e → WT Γ t (.leaf d) e fun e1 => WSs Γ b e1 fun o e2 => OutP o (Rel ws e e2 ∧ J (pre ++ [d]) r e2) (Q .nx e2) (fun u => Q (.ret u) e2))
    (hd : ∀ e, Rel ws e0 e → J ds [] e → Q .nx e) : ∃ o e, forLoop s.get (forStep Γ t b) n 0 e0 = some (o, e) ∧ Q o e := by
  have go : ∀ (r pre : List D) (e : Env), ds = pre ++ r → Rel ws e0 e → J pre r e → ∃ o e', forLoop s.get (forStep Γ t b) r.length pre.length e = some (o, e') ∧ Q o e' := by
    intro r
    induction r with
    | nil =>
      intro pre e hp hr hj
      rw [List.append_nil] at hp
      subst hp
      refine ⟨.nx, e, ?_, hd e hr hj⟩
      unfold forLoop
      rw [gives_get hg hr, List.getElem?_eq_none (Nat.le_refl _)]
    | cons d r ih =>
      intro pre e hp hr hj
      obtain ⟨e1, h1, o, e2, h2, h⟩ := hs pre d r e hp hr hj
      have g : s.get pre.length e = some (some d) := by
        rw [gives_get hg hr, hp]
        simp
      have st : forStep Γ t b d e = some (o, e2) := by unfold forStep; rw [h1]; exact h2
      have nxt : Rel ws e e2 ∧ J (pre ++ [d]) r e2 → ∃ o e', forLoop s.get (forStep Γ t b) r.length (pre.length + 1) e2 = some (o, e') ∧ Q o e' := fun ⟨q1, q2⟩ => by
        have := ih (pre ++ [d]) e2 (by rw [hp]; simp) (hr.trans q1) q2
        rw [List.length_append] at this
        exact this
      cases o with
      | nx =>
        obtain ⟨o, e', q1, q2⟩ := nxt h
        exact ⟨o, e', by show forLoop _ _ (r.length + 1) _ _ = _; unfold forLoop; rw [g]; simp only; rw [st]; exact q1, q2⟩
      | ct =>
        obtain ⟨o, e', q1, q2⟩ := nxt h
        exact ⟨o, e', by show forLoop _ _ (r.length + 1) _ _ = _; unfold forLoop; rw [g]; simp only; rw [st]; exact q1, q2⟩
      | bk => exact ⟨_, _, by show forLoop _ _ (r.length + 1) _ _ = _; unfold forLoop; rw [g]; simp only; rw [st], h⟩
      | ret u => exact ⟨_, _, by show forLoop _ _ (r.length + 1) _ _ = _; unfold forLoop; rw [g]; simp only; rw [st], h⟩
  subst hn
  exact go ds [] e0 rfl (Rel.refl _ _) h0
/-- a loop over items of one kind: vs, the slots that mean something and change; I says what they hold -/
theorem for_rule {Γ : Ctx} {t : T} {b : Ss} {s : Src} {n : Nat} {e0 : Env} {Q : Out → Env → Prop} {α : Type} (xs : List α) (enc : α → D) (vs : List Nat) (I : List α → List α → List (Option OT) → Prop)
    (hf : (!s.free (t.asgs ++ b.asgs)) = false) (hn : n = xs.length) (hg : s.gives (xs.map enc) e0 (vs ++ jsOf vs (t.asgs ++ b.asgs)))
    (h0 : I [] xs (getsL vs e0))
    (hs : ∀ pre x r, xs = pre ++ x :: r → allV vs.length fun l => I pre (x :: r) l → ∀ j, setsK vs l e0 fun e' => setsJ (jsOf vs (t.asgs ++ b.asgs)) j e' fun e => wpT Γ t (.leaf (enc x)) e fun e1 => wpSs Γ b e1 fun o e2 => OutP o (AgP (vs ++ jsOf vs (t.asgs ++ b.asgs)) e e2 (I (pre ++ [x]) r (getsL vs e2))) (Q .nx e2) (fun u => Q (.ret u) e2))
    (hd : allV vs.length fun l => I xs [] l → ∀ j, setsK vs l e0 fun e' => setsJ (jsOf vs (t.asgs ++ b.asgs)) j e' fun e => Q .nx e) : LoopP Γ t b s n e0 Q := by
  refine ⟨hf, ?_⟩
  generalize hjs : jsOf vs (t.asgs ++ b.asgs) = js at *
  have ap : ∀ {e : Env} {K : Env → Prop}, Rel (vs ++ js) e0 e → (∀ j, setsK vs (getsL vs e) e0 fun e' => setsJ js j e' K) → K e := fun {e} {K} hr h => by
    refine setsK_eq hr ?_
    rw [getsL_app]
    exact setsK_app (getsL_len _) (setsK_mono (fun e' h => setsJ_eq h) (h (lk e)))
  have fill : ∀ {K : List (Option OT) → Prop} (e : Env), (allV vs.length fun l => K l) → K (getsL vs e) := fun {K} e h => by
    have h1 : allV (getsL vs e).length fun l => K l := by rw [getsL_len]; exact h
    exact allV_eq h1
  refine for_core (ds := xs.map enc) (ws := vs ++ js) (by rw [hn, List.length_map]) hg (fun pre r e => ∃ p q, pre = p.map enc ∧ r = q.map enc ∧ xs = p ++ q ∧ I p q (getsL vs e)) ⟨[], xs, rfl, rfl, rfl, h0⟩ ?_ ?_
  · rintro pre d r e hp hr ⟨p, q, rfl, hq, hx, hi⟩
    cases q with
    | nil => cases hq
    | cons x q =>
      cases hq
      obtain ⟨e1, h1, h⟩ := wpT_eq t (ap hr (fill e (hs p x q hx) hi))
      obtain ⟨o, e2, h2, h⟩ := wpSs_eq b h
      refine ⟨e1, h1, o, e2, h2, ?_⟩
      have nx : AgP (vs ++ js) e e2 (I (p ++ [x]) q (getsL vs e2)) → Rel (vs ++ js) e e2 ∧ ∃ p' q', p.map enc ++ [enc x] = p'.map enc ∧ q.map enc = q'.map enc ∧ xs = p' ++ q' ∧ I p' q' (getsL vs e2) := fun h => ⟨h.rel, p ++ [x], q, by rw [List.map_append]; rfl, rfl, by rw [hx]; simp, h.a⟩
      cases o with
      | nx => exact nx h
      | ct => exact nx h
      | bk => exact h
      | ret u => exact h
  · rintro e hr ⟨p, q, hp, hq, hx, hi⟩
    cases q with
    | cons _ _ => cases hq
    | nil =>
      rw [List.append_nil] at hx
      subst hx
      exact ap hr (fill e hd hi)
/-! ### comprehensions -/
def wipeK : List Nat → Env → (Env → Prop) → Prop
  | [], e, K => K e
  | i :: r, e, K => wipeK r e fun e' => stK e' i none K
theorem wipeK_eq : ∀ {vs : List Nat} {e : Env} {K : Env → Prop}, wipeK vs e K → K (wipeE e vs)
  | [], e, K, h => h
  | i :: r, e, K, h => (stK_eq (wipeK_eq (vs := r) h)).2
theorem wipe_rel {e : Env} : ∀ vs : List Nat, Rel vs e (wipeE e vs)
  | [] => Rel.refl _ _
  | i :: r => by
    have h := wipe_rel (e := e) r
    refine ⟨by show (List.set _ _ _).length = _; rw [List.length_set]; exact h.len, fun k hk => ?_⟩
    show (List.set _ _ _)[k]? = _
    rw [List.getElem?_set_ne (fun z => hk (by rw [← z]; exact List.mem_cons_self))]
    exact h.out k fun z => hk (List.mem_cons_of_mem _ z)
theorem restore_out2 {e0 e : Env} : ∀ vs : List Nat, (restore e0 vs e).length = e.length ∧ (∀ k, k ∉ vs → (restore e0 vs e)[k]? = e[k]?) ∧ (e.length = e0.length → ∀ k ∈ vs, (restore e0 vs e)[k]? = e0[k]?)
  | [] => ⟨rfl, fun _ _ => rfl, fun _ _ h => nomatch h⟩
  | i :: r => by
    obtain ⟨h1, h2, h3⟩ := restore_out2 (e0 := e0) (e := e) r
    have hl : (restore e0 (i :: r) e).length = e.length := by show (List.set _ _ _).length = _; rw [List.length_set]; exact h1
    refine ⟨hl, fun k hk => ?_, fun hle k hk => ?_⟩
    · show (List.set _ _ _)[k]? = _
      rw [List.getElem?_set_ne (fun z => hk (by rw [← z]; exact List.mem_cons_self))]
      exact h2 k fun z => hk (List.mem_cons_of_mem _ z)
    · show (List.set _ _ _)[k]? = _
      rw [List.getElem?_set]
      split
      · rename_i c; subst c
        split
        · rename_i q
          rw [h1, hle] at q
          rw [List.getD_eq_getElem?_getD, List.getElem?_eq_getElem q]
          rfl
        · rename_i q
          rw [h1, hle] at q
          rw [List.getElem?_eq_none (by omega)]
      · rename_i c
        rcases List.mem_cons.mp hk with z | z
        · exact absurd z.symm c
        · exact h3 hle k z
theorem restore_rel {e0 e : Env} {vs own : List Nat} (h : Rel (vs ++ own) e0 e) : Rel vs e0 (restore e0 own e) := by
  obtain ⟨h1, h2, h3⟩ := restore_out2 (e0 := e0) (e := e) own
  refine ⟨h1.trans h.len, fun k hk => ?_⟩
  by_cases c : k ∈ own
  · exact h3 h.len k c
  · exact (h2 k c).trans (h.out k fun z => (List.mem_append.mp z).elim hk c)
theorem getsL_rel {a b : Env} {vs own : List Nat} (h : Rel own a b) (hd : vs.all (fun i => !own.contains i) = true) : getsL vs b = getsL vs a := by
  induction vs with
  | nil => rfl
  | cons v vs ih =>
    rw [List.all_cons, Bool.and_eq_true] at hd
    show lk b v :: getsL vs b = lk a v :: getsL vs a
    rw [ih hd.2, lk_get, lk_get, h.out v fun z => by
      have := hd.1
      rw [List.contains_iff_mem.mpr z] at this
      cases this]
theorem comp_core {Γ : Ctx} {elt : E} {t : T} {cond : C} {own : List Nat} {s : Src} {n : Nat} {e0 : Env} {ds : List D} {ws : List Nat} {Q : List OT → Env → Prop} (hn : n = ds.length) (hg : s.gives ds e0 ws) (J : List D → List D → List OT → Env → Prop) (h0 : J [] ds [] e0)
    (hs : ∀ pre d r acc e, ds = pre ++ d :: r → Rel ws e0 e → J pre (d :: r) acc e → WT Γ t (.leaf d) (wipeE e own) fun e1 => WC Γ cond e1 fun b e2 => if b = true then WE Γ elt e2 fun r' e3 => ∃ x e4, r'.take e3 = some (x, e4) ∧ acc.length < sizeLine ∧ Rel ws e e4 ∧ J (pre ++ [d]) r (acc ++ [x]) e4 else Rel ws e e2 ∧ J (pre ++ [d]) r acc e2)
    (hd : ∀ acc e, Rel ws e0 e → J ds [] acc e → Q acc e) : ∃ ts e, compLoop s.get (compStep Γ elt t cond own) n 0 [] e0 = some (ts, e) ∧ Q ts e := by
  have go : ∀ (r pre : List D) (acc : List OT) (e : Env), ds = pre ++ r → Rel ws e0 e → J pre r acc e → ∃ ts e', compLoop s.get (compStep Γ elt t cond own) r.length pre.length acc e = some (ts, e') ∧ Q ts e' := by
    intro r
    induction r with
    | nil =>
      intro pre acc e hp hr hj
      rw [List.append_nil] at hp
      subst hp
      refine ⟨acc, e, ?_, hd acc e hr hj⟩
      unfold compLoop
      rw [gives_get hg hr, List.getElem?_eq_none (Nat.le_refl _)]
    | cons d r ih =>
      intro pre acc e hp hr hj
      obtain ⟨e1, h1, b, e2, h2, h3⟩ := hs pre d r acc e hp hr hj
      have g : s.get pre.length e = some (some d) := by
        rw [gives_get hg hr, hp]
        simp
      cases b with
      | false =>
        rw [if_neg Bool.false_ne_true] at h3
        have st : compStep Γ elt t cond own d e = some (none, e2) := by unfold compStep; rw [h1]; simp only; rw [h2]
        obtain ⟨ts, e', q1, q2⟩ := ih (pre ++ [d]) acc e2 (by rw [hp]; simp) (hr.trans h3.1) h3.2
        rw [List.length_append] at q1
        exact ⟨ts, e', by show compLoop _ _ (r.length + 1) _ _ _ = _; unfold compLoop; rw [g]; simp only; rw [st]; exact q1, q2⟩
      | true =>
        rw [if_pos rfl] at h3
        obtain ⟨r', e3, h4, x, e4, h5, hz, hr4, hj4⟩ := h3
        have st : compStep Γ elt t cond own d e = some (some x, e4) := by unfold compStep; rw [h1]; simp only; rw [h2]; simp only; rw [h4]; simp only; rw [h5]
        obtain ⟨ts, e', q1, q2⟩ := ih (pre ++ [d]) (acc ++ [x]) e4 (by rw [hp]; simp) (hr.trans hr4) hj4
        rw [List.length_append] at q1
        exact ⟨ts, e', by show compLoop _ _ (r.length + 1) _ _ _ = _; unfold compLoop; rw [g]; simp only; rw [st]; simp only; rw [if_pos hz]; exact q1, q2⟩
  subst hn
  exact go ds [] [] e0 rfl (Rel.refl _ _) h0
/-- a comprehension over items of one kind; vs: the slots that change (draws) -/
theorem comp_rule {Γ : Ctx} {elt : E} {t : T} {cond : C} {own : List Nat} {s : Src} {n : Nat} {e0 : Env} {Q : R → Env → Prop} {α : Type} (xs : List α) (enc : α → D) (vs : List Nat) (I : List α → List α → List OT → List (Option OT) → Prop)
    (hf : (slotsFree e0 own && s.free own) = true) (hv : vs.all (fun i => !own.contains i) = true) (hn : n = xs.length) (hg : s.gives (xs.map enc) e0 (vs ++ own))
    (h0 : I [] xs [] (getsL vs e0))
    (hs : ∀ pre x r acc, xs = pre ++ x :: r → allV vs.length fun l => I pre (x :: r) acc l → wipeK own e0 fun w0 => setsK vs l w0 fun w => wpT Γ t (.leaf (enc x)) w fun e1 => wpC Γ cond e1 fun b e2 => If2 b (wpE Γ elt e2 fun r' e3 => takeK r' e3 fun y e4 => AgP (vs ++ own) w e4 (acc.length < sizeLine ∧ I (pre ++ [x]) r (acc ++ [y]) (getsL vs e4))) (AgP (vs ++ own) w e2 (I (pre ++ [x]) r acc (getsL vs e2))))
    (hd : ∀ acc, allV vs.length fun l => I xs [] acc l → setsK vs l e0 fun e => Q (.own (.lst acc)) e) : CompP Γ elt t cond own s n e0 Q := by
  refine ⟨hf, ?_⟩
  have fill : ∀ {K : List (Option OT) → Prop} (e : Env), (allV vs.length fun l => K l) → K (getsL vs e) := fun {K} e h => by
    have h1 : allV (getsL vs e).length fun l => K l := by rw [getsL_len]; exact h
    exact allV_eq h1
  refine comp_core (ds := xs.map enc) (ws := vs ++ own) (by rw [hn, List.length_map]) hg (fun pre r acc e => ∃ p q, pre = p.map enc ∧ r = q.map enc ∧ xs = p ++ q ∧ I p q acc (getsL vs e)) ⟨[], xs, rfl, rfl, rfl, h0⟩ ?_ ?_
  · rintro pre d r acc e hp hr ⟨p, q, rfl, hq, hx, hi⟩
    cases q with
    | nil => cases hq
    | cons x q =>
      cases hq
      have rw0 : Rel vs (wipeE e0 own) (wipeE e own) := by
        refine ⟨((wipe_rel (e := e) own).len.trans hr.len).trans (wipe_rel (e := e0) own).len.symm, fun k hk => ?_⟩
        by_cases c : k ∈ own
        · have two : ∀ (own : List Nat) (a b : Env), a.length = b.length → k ∈ own → (wipeE a own)[k]? = (wipeE b own)[k]? := by
            intro own
            induction own with
            | nil => intro a b _ h; cases h
            | cons i r ih =>
              intro a b hl h
              show (List.set _ _ _)[k]? = (List.set _ _ _)[k]?
              rw [List.getElem?_set, List.getElem?_set]
              split
              · rw [(wipe_rel (e := a) r).len, (wipe_rel (e := b) r).len, hl]
              · rename_i c
                rcases List.mem_cons.mp h with z | z
                · exact absurd z.symm c
                · exact ih a b hl z
          exact two own e e0 hr.len c
        · rw [(wipe_rel own).out k c, (wipe_rel own).out k c]
          exact hr.out k fun z => (List.mem_append.mp z).elim hk c
      have gw : getsL vs (wipeE e own) = getsL vs e := getsL_rel (wipe_rel own) hv
      have st := setsK_eq rw0 (by
        rw [gw]
        exact wipeK_eq (fill e (hs p x q acc hx) hi))
      obtain ⟨e1, h1, h⟩ := wpT_eq t st
      obtain ⟨b, e2, h2, h⟩ := wpC_eq cond h
      refine ⟨e1, h1, b, e2, h2, ?_⟩
      have ow : Rel (vs ++ own) e (wipeE e own) := (wipe_rel own).mono fun i hi => List.mem_append.mpr (.inr hi)
      have h := h.elim
      cases b with
      | true =>
        rw [if_pos rfl] at h ⊢
        obtain ⟨r', e3, h3, h⟩ := wpE_eq elt h
        obtain ⟨y, e4, h4, h⟩ := takeK_eq h
        exact ⟨r', e3, h3, y, e4, h4, h.a.1, ow.trans h.rel, p ++ [x], q, by rw [List.map_append]; rfl, rfl, by rw [hx]; simp, h.a.2⟩
      | false =>
        rw [if_neg Bool.false_ne_true] at h ⊢
        exact ⟨ow.trans h.rel, p ++ [x], q, by rw [List.map_append]; rfl, rfl, by rw [hx]; simp, h.a⟩
  · rintro acc e hr ⟨p, q, hp, hq, hx, hi⟩
    cases q with
    | cons _ _ => cases hq
    | nil =>
      rw [List.append_nil] at hx
      subst hx
      have rr := restore_rel hr
      have ge : getsL vs (restore e0 own e) = getsL vs e := by
        have go : ∀ vs : List Nat, vs.all (fun i => !own.contains i) = true → getsL vs (restore e0 own e) = getsL vs e := by
          intro vs
          induction vs with
          | nil => intro _; rfl
          | cons v vs ih =>
            intro h
            rw [List.all_cons, Bool.and_eq_true] at h
            show lk _ v :: getsL vs _ = lk e v :: getsL vs e
            rw [ih h.2, lk_get, lk_get, (restore_out2 own).2.1 v fun z => by
              have := h.1
              rw [List.contains_iff_mem.mpr z] at this
              cases this]
        exact go vs hv
      exact setsK_eq rr (by rw [ge]; exact fill e (hd acc) hi)
theorem wipe_same {e0 e : Env} {own : List Nat} (h : Rel own e0 e) : wipeE e own = wipeE e0 own := by
  refine List.ext_getElem? fun k => ?_
  by_cases c : k ∈ own
  · have two : ∀ (own : List Nat) (a b : Env), a.length = b.length → k ∈ own → (wipeE a own)[k]? = (wipeE b own)[k]? := by
      intro own
      induction own with
      | nil => intro a b _ h; cases h
      | cons i r ih =>
        intro a b hl h
        show (List.set _ _ _)[k]? = (List.set _ _ _)[k]?
        rw [List.getElem?_set, List.getElem?_set]
        split
        · rw [(wipe_rel (e := a) r).len, (wipe_rel (e := b) r).len, hl]
        · rename_i c
          rcases List.mem_cons.mp h with z | z
          · exact absurd z.symm c
          · exact ih a b hl z
    exact two own e e0 h.len c
  · rw [(wipe_rel own).out k c, (wipe_rel own).out k c]
    exact h.out k c
/-- .. that changes nothing: each item told -/
theorem comp_filt {Γ : Ctx} {elt : E} {t : T} {cond : C} {own : List Nat} {s : Src} {n : Nat} {e0 : Env} {Q : R → Env → Prop} {α : Type} (xs : List α) (enc : α → D) (F : α → Option D)
    (hz : xs.length ≤ sizeLine) (hf : (slotsFree e0 own && s.free own) = true) (hn : n = xs.length) (hg : s.gives (xs.map enc) e0 own)
    (hs : ∀ x ∈ xs, wipeK own e0 fun w => wpT Γ t (.leaf (enc x)) w fun e1 => wpC Γ cond e1 fun b e2 => If2 b (wpE Γ elt e2 fun r' e3 => takeK r' e3 fun y e4 => AgP own w e4 (∃ d, y = .leaf d ∧ F x = some d)) (AgP own w e2 (F x = none)))
    (hd : Q (.own (.lst ((xs.filterMap F).map .leaf))) e0) : CompP Γ elt t cond own s n e0 Q := by
  refine ⟨hf, ?_⟩
  refine comp_core (ds := xs.map enc) (ws := own) (Q := fun ts e => Q (.own (.lst ts)) (restore e0 own e)) (by rw [hn, List.length_map]) hg (fun pre r acc e => ∃ p q, pre = p.map enc ∧ r = q.map enc ∧ xs = p ++ q ∧ acc = (p.filterMap F).map .leaf) ⟨[], xs, rfl, rfl, rfl, rfl⟩ ?_ ?_
  · rintro pre d r acc e hp hr ⟨p, q, rfl, hq, hx, rfl⟩
    cases q with
    | nil => cases hq
    | cons x q =>
      cases hq
      have hl : ((p.filterMap F).map OT.leaf).length < sizeLine := by
        rw [List.length_map]
        have h1 := List.length_filterMap_le F p
        have h2 : p.length < xs.length := by rw [hx]; simp
        omega
      have h := wipeK_eq (hs x (by rw [hx]; simp))
      rw [← wipe_same hr] at h
      obtain ⟨e1, h1, h⟩ := wpT_eq t h
      obtain ⟨b, e2, h2, h⟩ := wpC_eq cond h
      refine ⟨e1, h1, b, e2, h2, ?_⟩
      have h := h.elim
      have ow := wipe_rel (e := e) own
      cases b with
      | true =>
        rw [if_pos rfl] at h ⊢
        obtain ⟨r', e3, h3, h⟩ := wpE_eq elt h
        obtain ⟨y, e4, h4, h⟩ := takeK_eq h
        obtain ⟨d, h5, h6⟩ := h.a
        exact ⟨r', e3, h3, y, e4, h4, hl, ow.trans h.rel, p ++ [x], q, by rw [List.map_append]; rfl, rfl, by rw [hx]; simp, by rw [List.filterMap_append, List.map_append, h5]; simp [h6]⟩
      | false =>
        rw [if_neg Bool.false_ne_true] at h ⊢
        exact ⟨ow.trans h.rel, p ++ [x], q, by rw [List.map_append]; rfl, rfl, by rw [hx]; simp, by rw [List.filterMap_append]; simp [h.a]⟩
  · rintro acc e hr ⟨p, q, hp, hq, hx, rfl⟩
    cases q with
    | cons _ _ => cases hq
    | nil =>
      rw [List.append_nil] at hx
      subst hx
      have rr := restore_rel (vs := []) (own := own) hr
      have : restore e0 own e = e0 := List.ext_getElem? fun i => rr.out i (fun z => nomatch z)
      rw [this]
      exact hd
theorem filterMap_some {α β : Type} (f : α → β) : ∀ xs : List α, xs.filterMap (fun x => some (f x)) = xs.map f
  | [] => rfl
  | x :: r => by rw [List.filterMap_cons]; simp only; rw [filterMap_some f r]; rfl
theorem comp_map {Γ : Ctx} {elt : E} {t : T} {cond : C} {own : List Nat} {s : Src} {n : Nat} {e0 : Env} {Q : R → Env → Prop} {α : Type} (xs : List α) (enc : α → D) (G : α → D)
    (hz : xs.length ≤ sizeLine) (hf : (slotsFree e0 own && s.free own) = true) (hn : n = xs.length) (hg : s.gives (xs.map enc) e0 own)
    (hs : ∀ x ∈ xs, wipeK own e0 fun w => wpT Γ t (.leaf (enc x)) w fun e1 => wpC Γ cond e1 fun b e2 => If2 b (wpE Γ elt e2 fun r' e3 => takeK r' e3 fun y e4 => AgP own w e4 (∃ d, y = .leaf d ∧ some (G x) = some d)) (AgP own w e2 (some (G x) = none)))
    (hd : Q (.own (.lst ((xs.map G).map .leaf))) e0) : CompP Γ elt t cond own s n e0 Q :=
  comp_filt xs enc (fun x => some (G x)) hz hf hn hg hs (by rw [filterMap_some]; exact hd)
theorem comp_sel {Γ : Ctx} {elt : E} {t : T} {cond : C} {own : List Nat} {s : Src} {n : Nat} {e0 : Env} {Q : R → Env → Prop} {α : Type} (xs : List α) (enc : α → D) (p : α → Prop) [DecidablePred p] (G : α → D)
    (hz : xs.length ≤ sizeLine) (hf : (slotsFree e0 own && s.free own) = true) (hn : n = xs.length) (hg : s.gives (xs.map enc) e0 own)
    (hs : ∀ x ∈ xs, wipeK own e0 fun w => wpT Γ t (.leaf (enc x)) w fun e1 => wpC Γ cond e1 fun b e2 => If2 b (wpE Γ elt e2 fun r' e3 => takeK r' e3 fun y e4 => AgP own w e4 (∃ d, y = .leaf d ∧ (if p x then some (G x) else none) = some d)) (AgP own w e2 ((if p x then some (G x) else none) = none)))
    (hd : Q (.own (.lst (((xs.filter p).map G).map .leaf))) e0) : CompP Γ elt t cond own s n e0 Q := by
  refine comp_filt xs enc (fun x => if p x then some (G x) else none) hz hf hn hg hs ?_
  have : ∀ xs : List α, xs.filterMap (fun x => if p x then some (G x) else none) = (xs.filter p).map G := by
    intro xs
    induction xs with
    | nil => rfl
    | cons x r ih =>
      rw [List.filterMap_cons, List.filter_cons]
      by_cases c : p x
      · simp [c, ih]
      · simp [c, ih]
  rw [this]
  exact hd
/-! ### while -/
theorem whl_rule {Γ : Ctx} {c : E} {b : Ss} {e0 : Env} {Q : Out → Env → Prop} (vs : List Nat) (I : Nat → List (Option OT) → Prop) (n : Nat) (hn : n < 2 ^ 100) (h0 : I n (getsL vs e0))
    (hs : ∀ m, allV vs.length fun l => I m l → ∀ j, setsK vs l e0 fun e' => setsJ (jsOf vs b.asgs) j e' fun e => wpE Γ c e fun r e1 => boolK r fun k => If2 k (wpSs Γ b e1 fun o e2 => OutP o (AgP (vs ++ jsOf vs b.asgs) e e2 (∃ m', m' < m ∧ I m' (getsL vs e2))) (Q .nx e2) (fun u => Q (.ret u) e2)) (Q .nx e1)) : WhlP Γ c b e0 Q := by
  generalize hjs : jsOf vs b.asgs = js at *
  have ap : ∀ {e : Env} {K : Env → Prop}, Rel (vs ++ js) e0 e → (∀ j, setsK vs (getsL vs e) e0 fun e' => setsJ js j e' K) → K e := fun {e} {K} hr h => by
    refine setsK_eq hr ?_
    rw [getsL_app]
    exact setsK_app (getsL_len _) (setsK_mono (fun e' h => setsJ_eq h) (h (lk e)))
  have fill : ∀ {K : List (Option OT) → Prop} (e : Env), (allV vs.length fun l => K l) → K (getsL vs e) := fun {K} e h => by
    have h1 : allV (getsL vs e).length fun l => K l := by rw [getsL_len]; exact h
    exact allV_eq h1
  have := ws_whl (Γ := Γ) (env := e0) (c := c) (b := b) (Q := Q) (fun m e => Rel (vs ++ js) e0 e ∧ I m (getsL vs e)) (n := n) hn ⟨Rel.refl _ _, h0⟩ (fun m e ⟨hr, hi⟩ => by
    have st := ap hr (fill e (hs m) hi)
    obtain ⟨k, e1, h1, h⟩ := WB.of (wpE_eq c st)
    refine ⟨k, e1, h1, ?_⟩
    have h := h.elim
    cases k with
    | false => exact h
    | true =>
      rw [if_pos rfl] at h ⊢
      obtain ⟨o, e2, h2, h⟩ := wpSs_eq b h
      refine ⟨o, e2, h2, ?_⟩
      have nx : AgP (vs ++ js) e e2 (∃ m', m' < m ∧ I m' (getsL vs e2)) → ∃ m', m' < m ∧ Rel (vs ++ js) e0 e2 ∧ I m' (getsL vs e2) := fun h => by
        obtain ⟨m', q1, q2⟩ := h.a
        exact ⟨m', q1, hr.trans h.rel, q2⟩
      cases o with
      | nx => exact nx h
      | ct => exact nx h
      | bk => exact h
      | ret u => exact h)
  obtain ⟨o, e, h1, q⟩ := this
  unfold exec at h1
  exact ⟨o, e, h1, q⟩
/-! ### defs -/
def normK : Env → (Env → Prop) → Prop
  | [], K => K []
  | x :: r, K => normK r fun r' => K (x :: r')
theorem normK_eq : ∀ {e : Env} {K : Env → Prop}, normK e K → K e
  | [], K, h => h
  | x :: r, K, h => normK_eq (e := r) h
theorem call_def {P : List Def} {k f : Nat} {d : Def} {ts : List OT} {Q : OT → List (Option OT) → Prop} (hd : P[f]? = some d) (hl : ts.length = d.n) (h : normK (startE d ts) fun env => wpSs ⟨run P k, keepOf P⟩ d.body env fun o e => match o with
    | .ret t => Q t (d.fin e)
    | .nx => Q (.leaf .none) (d.fin e)
    | _ => False) : CallP (run P (k + 1) f) ts Q := by
  obtain ⟨o, e, h1, q⟩ := wpSs_eq d.body (normK_eq h)
  have fl : (d.fin e).length = ts.length := by rw [hl]; unfold Def.fin; simp
  cases o with
  | ret t => exact ⟨t, d.fin e, by unfold run; rw [hd]; simp only; unfold runDef; rw [if_pos hl, h1], fl, q⟩
  | nx => exact ⟨.leaf .none, d.fin e, by unfold run; rw [hd]; simp only; unfold runDef; rw [if_pos hl, h1], fl, q⟩
  | bk => exact q.elim
  | ct => exact q.elim
theorem CallP.mono {f : List OT → Option (OT × List (Option OT))} {ts : List OT} {Q Q' : OT → List (Option OT) → Prop} (h : CallP f ts Q) (q : ∀ t fin, Q t fin → Q' t fin) : CallP f ts Q' := by
  obtain ⟨t, fin, h1, h2, h3⟩ := h
  exact ⟨t, fin, h1, h2, q t fin h3⟩
end PyI
namespace PyI
open PySem
/-! ### plain data by tactic -/
structure Sp (n : Nat) (d : D) : Prop where
  dp : d.depth ≤ n
  cl : d.canLay0 = true
structure Sps (n : Nat) (xs : List D) : Prop where
  dp : PyData.depthAll xs ≤ n
  cl : PyData.canLayAll0 xs = true
theorem Sp.int {i : Int} : Sp 0 (.int i) := ⟨Nat.le_refl _, rfl⟩
theorem Sp.none : Sp 0 .none := ⟨Nat.le_refl _, rfl⟩
theorem Sp.bool {b : Bool} : Sp 0 (.bool b) := ⟨Nat.le_refl _, rfl⟩
theorem Sp.str {s : Str} (h : PyData.strOk s = true) : Sp 0 (.str s) := ⟨Nat.le_refl _, by unfold PyData.canLay0; exact h⟩
theorem Pl.sp {n m : Nat} {d : D} (h : Pl n m d) : Sp n d := ⟨h.dp, h.cl⟩
theorem Pls.sps {n m : Nat} {d : List D} (h : Pls n m d) : Sps n d := ⟨h.dp, h.cl⟩
theorem Sps.nil : Sps 0 [] := ⟨Nat.le_refl _, rfl⟩
theorem Sps.cons {n n' : Nat} {x : D} {xs : List D} (h : Sp n x) (q : Sps n' xs) : Sps (max n n') (x :: xs) := ⟨by unfold PyData.depthAll; have := h.dp; have := q.dp; omega, by unfold PyData.canLayAll0; rw [h.cl, q.cl]; rfl⟩
theorem Sp.list {n : Nat} {xs : List D} (h : Sps n xs) : Sp (n + 1) (.list xs) := ⟨by unfold PyData.depth; have := h.dp; omega, by unfold PyData.canLay0; exact h.cl⟩
theorem Sp.tuple {n : Nat} {xs : List D} (h : Sps n xs) : Sp (n + 1) (.tuple xs) := ⟨by unfold PyData.depth; have := h.dp; omega, by unfold PyData.canLay0; exact h.cl⟩
theorem Sps.all {n : Nat} : ∀ {xs : List D}, (∀ x ∈ xs, Sp n x) → Sps n xs
  | [], _ => ⟨Nat.zero_le _, rfl⟩
  | x :: xs, h => by
    have q := Sps.cons (h x List.mem_cons_self) (Sps.all fun y hy => h y (List.mem_cons_of_mem _ hy))
    rwa [Nat.max_self] at q
theorem Sps.map {α : Type} {n : Nat} {xs : List α} {G : α → D} (h : ∀ x ∈ xs, Sp n (G x)) : Sps n (xs.map G) := Sps.all fun y hy => by
  obtain ⟨x, hx, rfl⟩ := List.mem_map.mp hy
  exact h x hx
theorem Sp.shaped {n : Nat} {d : D} (h : Sp n d) (hn : n ≤ 64) : SeqAt.shaped d = true := by
  unfold SeqAt.shaped
  rw [h.cl, decide_eq_true (Nat.le_trans h.dp hn)]
  rfl
theorem Pls.map {α : Type} {n m : Nat} {xs : List α} {G : α → D} (h : ∀ x ∈ xs, Pl n m (G x)) : Pls n (xs.length * (m + 1)) (xs.map G) := by
  have := Pls.all (xs := xs.map G) (n := n) (m := m) fun y hy => by
    obtain ⟨x, hx, rfl⟩ := List.mem_map.mp hy
    exact h x hx
  rwa [List.length_map] at this
theorem Pl.i {i : Int} (h : -1000000000000 ≤ i ∧ i ≤ 1000000000000) : Pl 0 0 (.int i) := Pl.int (Nat.lt_of_le_of_lt (show i.natAbs ≤ 1000000000000 by omega) (by decide))
def strLit (s : Str) : Bool := decide (s.cps.size ≤ 20) && PyData.leavesShort 64 (.str s) && PyData.strOk s && PyData.strOk (PyData.str s).shown
theorem Pl.str {s : Str} (h : strLit s = true) : Pl 0 20 (.str s) := by
  unfold strLit at h
  simp only [Bool.and_eq_true, decide_eq_true_eq] at h
  exact ⟨Nat.le_refl _, by unfold PyData.bulk; exact h.1.1.1, h.1.1.2, rfl, by unfold PyData.canLay0; exact h.1.2, h.2⟩
/-! ### pieces of lists -/
theorem enumD_map {α : Type} {e : α → D} : ∀ {xs : List α} {k : Nat}, enumD k (xs.map e) = (xs.zipIdx k).map fun p => .tuple [.int p.2, e p.1]
  | [], _ => rfl
  | x :: xs, k => by
    show PyData.tuple [.int k, e x] :: enumD (k + 1) (xs.map e) = _
    rw [enumD_map (xs := xs)]
    rfl
theorem zipD_map {α β : Type} {e : α → D} {f : β → D} : ∀ {xs : List α} {ys : List β}, zipD (xs.map e) (ys.map f) = (xs.zip ys).map fun p => .tuple [e p.1, f p.2]
  | [], ys => by cases ys <;> rfl
  | x :: xs, [] => rfl
  | x :: xs, y :: ys => by
    show PyData.tuple [e x, f y] :: zipD (xs.map e) (ys.map f) = _
    rw [zipD_map (xs := xs)]
    rfl
theorem zipIdx_split {α : Type} {x : α} {i : Nat} : ∀ {xs : List α} {k : Nat} {pre r : List (α × Nat)}, xs.zipIdx k = pre ++ (x, i) :: r → i = k + pre.length ∧ xs = pre.map (·.1) ++ x :: r.map (·.1)
  | [], k, pre, r, h => by cases pre <;> cases h
  | y :: ys, k, [], r, h => by
    rw [List.zipIdx_cons] at h
    injection h with h1 h2
    injection h1 with h3 h4
    subst h3 h4
    refine ⟨rfl, ?_⟩
    rw [← h2]
    show _ = y :: ((ys.zipIdx (k + 1)).map (·.1))
    rw [List.zipIdx_map_fst]
  | y :: ys, k, p :: pre, r, h => by
    rw [List.zipIdx_cons] at h
    injection h with h1 h2
    obtain ⟨q1, q2⟩ := zipIdx_split h2
    subst h1
    refine ⟨by rw [q1, List.length_cons]; omega, ?_⟩
    rw [List.map_cons, List.cons_append, ← q2]
theorem range_split {n k : Nat} {pre r : List Nat} (h : List.range n = pre ++ k :: r) : k = pre.length ∧ k < n := by
  have hl : pre.length < n := by
    have := congrArg List.length h
    simp at this
    omega
  have : (List.range n)[pre.length]? = some k := by rw [h]; simp
  rw [List.getElem?_range hl] at this
  cases this
  exact ⟨rfl, hl⟩
theorem strLit_form : strLit "form" = true := by decide +kernel
end PyI

/-! What must hold for more holds for less: cuts. -/
namespace PyI
open PySem
theorem If2.mono {c : Bool} {A B A' B' : Prop} (h : If2 c A B) (f : A → A') (g : B → B') : If2 c A' B' := ⟨fun z => f (h.t z), fun z => g (h.f z)⟩
theorem Sd.mono {p A B : Prop} (h : Sd p A) (f : A → B) : Sd p B := ⟨h.p, f h.a⟩
theorem stK_mono : ∀ {env : Env} {i : Nat} {v : Option OT} {K K' : Env → Prop}, (∀ e, K e → K' e) → stK env i v K → stK env i v K'
  | [], _, _, _, _, _, h => h
  | _ :: _, 0, _, _, _, f, h => f _ h
  | _ :: r, i + 1, _, _, _, f, h => stK_mono (env := r) (fun e he => f _ he) h
theorem lookK_mono {env : Env} {v : Nat} {p : List Nat} {K K' : OT → Prop} (f : ∀ t, K t → K' t) (h : lookK env v p K) : lookK env v p K' := by
  unfold lookK at h ⊢
  generalize lk env v = z at h ⊢
  cases z with
  | none => exact h
  | some t =>
    cases p with
    | nil => exact f _ h
    | cons k p => exact ⟨h.ex.imp fun u q => ⟨q.1, f _ q.2⟩⟩
theorem treeK_mono {r : R} {env : Env} {K K' : OT → Prop} (f : ∀ t, K t → K' t) (h : treeK r env K) : treeK r env K' := by
  cases r with
  | own t => exact f _ h
  | al i p => exact lookK_mono f h
theorem putK_mono {env : Env} {v : Nat} {p : List Nat} {n : OT} {K K' : Env → Prop} (f : ∀ e, K e → K' e) (h : putK env v p n K) : putK env v p n K' := by
  unfold putK at h ⊢
  generalize lk env v = z at h ⊢
  cases z with
  | none => exact h
  | some t =>
    cases p with
    | nil => exact stK_mono f h
    | cons k p => exact ⟨h.ex.imp fun u q => ⟨q.1, stK_mono f q.2⟩⟩
theorem dtK_mono {t : OT} {K K' : D → Prop} (f : ∀ d, K d → K' d) (h : dtK t K) : dtK t K' := by
  cases t with
  | leaf d => exact f _ h
  | nod g ts => cases g with
    | none => exact ⟨f _ h.k⟩
    | some ks => exact ⟨f _ h.k⟩
theorem dtsK_mono : ∀ {ts : List OT} {K K' : List D → Prop}, (∀ d, K d → K' d) → dtsK ts K → dtsK ts K'
  | [], _, _, f, h => f _ h
  | t :: ts, _, _, f, h => dtK_mono (fun d q => dtsK_mono (ts := ts) (fun ds => f _) q) h
theorem takeK_mono {r : R} {env : Env} {K K' : OT → Env → Prop} (f : ∀ t e, K t e → K' t e) (h : takeK r env K) : takeK r env K' := by
  cases r with
  | own t => exact f _ _ h
  | al i p =>
    cases p with
    | cons _ _ => exact h
    | nil =>
      unfold takeK at h ⊢
      simp only at h ⊢
      generalize lk env i = z at h ⊢
      cases z with
      | none => exact h
      | some t => exact dtK_mono (fun d q => stK_mono (fun e => f _ e) q) h
theorem takesK_mono : ∀ {rs : List R} {env : Env} {K K' : List OT → Env → Prop}, (∀ t e, K t e → K' t e) → takesK rs env K → takesK rs env K'
  | [], _, _, _, f, h => f _ _ h
  | r :: rs, _, _, _, f, h => takeK_mono (fun t e q => takesK_mono (rs := rs) (fun ts => f _) q) h
theorem LvP.mono {ts : List OT} {K K' : List D → Prop} (f : ∀ d, K d → K' d) (h : LvP ts K) : LvP ts K' := ⟨h.ex.imp fun u q => ⟨q.1, f _ q.2⟩⟩
theorem shK_mono {r : R} {env : Env} {K K' : D → Prop} (f : ∀ d, K d → K' d) (h : shK r env K) : shK r env K' :=
  treeK_mono (fun t q => by
    cases t with
    | leaf d => exact f _ q
    | nod g ts => cases g with
      | none => exact LvP.mono (fun ds => f _) q
      | some _ => exact q) h
theorem datsK_mono : ∀ {rs : List R} {env : Env} {K K' : List D → Prop}, (∀ d, K d → K' d) → datsK rs env K → datsK rs env K'
  | [], _, _, _, f, h => f _ h
  | r :: rs, env, _, _, f, h => treeK_mono (fun t q => dtK_mono (fun d q => datsK_mono (rs := rs) (fun ds => f _) q) q) h
theorem datK_mono {r : R} {env : Env} {K K' : D → Prop} (f : ∀ d, K d → K' d) (h : datK r env K) : datK r env K' := treeK_mono (fun t q => dtK_mono f q) h
theorem intK_mono {d : D} {K K' : Int → Prop} (f : ∀ d, K d → K' d) (h : intK d K) : intK d K' := by
  cases d with
  | int i => exact f _ h
  | _ => exact h
theorem i2K_mono {a b : D} {K K' : Int → Int → Prop} (f : ∀ i j, K i j → K' i j) (h : i2K a b K) : i2K a b K' := intK_mono (fun i q => intK_mono (fun j => f i j) q) h
theorem boolK_mono {r : R} {K K' : Bool → Prop} (f : ∀ d, K d → K' d) (h : boolK r K) : boolK r K' := by
  obtain ⟨b, rfl, h⟩ := boolK_eq h
  exact f _ h
theorem lstK_mono {t : OT} {K K' : List OT → Prop} (f : ∀ d, K d → K' d) (h : lstK t K) : lstK t K' := by
  cases t with
  | nod g ts => cases g with
    | none => exact f _ h
    | some _ => exact h
  | leaf _ => exact h
theorem noK_mono2 {c : Bool} {A B : Prop} (f : A → B) (h : noK c A) : noK c B := by cases c with
  | true => exact h
  | false => exact f h
theorem yesK_mono {c : Bool} {A B : Prop} (f : A → B) (h : yesK c A) : yesK c B := by cases c with
  | false => exact h
  | true => exact f h
theorem wpF_mono {o : Op} {ds : List D} {K K' : D → Prop} (f : ∀ d, K d → K' d) (h : wpF o ds K) : wpF o ds K' := by
  unfold wpF at h ⊢
  split at h
  all_goals first
    | exact i2K_mono (fun i j => f _) h
    | exact i2K_mono (fun i j q => q.mono (f _)) h
    | exact intK_mono (fun i => f _) h
    | exact intK_mono (fun i q => q.mono (f _)) h
    | exact ⟨h.sa, h.sb, f _ h.k⟩
    | exact f _ h
    | exact h.mono (f _)
    | exact ⟨h.p, f _ h.a⟩
    | exact ⟨h.ex.imp fun u q => ⟨q.1, f _ q.2⟩⟩
    | exact h.elim
    | skip
  all_goals (split at h <;> first
    | exact f _ h
    | exact ⟨f _ h.k⟩
    | exact ⟨h.ex.imp fun u q => ⟨q.1, f _ q.2⟩⟩
    | exact ⟨h.ex.imp fun u q => q.imp fun v q => ⟨q.1, q.2.1, f _ q.2.2⟩⟩
    | exact h.elim
    | skip)
theorem addK_mono {a b : D} {K K' : OT → Prop} (f : ∀ d, K d → K' d) (h : addK a b K) : addK a b K' := by
  unfold addK at h ⊢
  split at h <;> first | exact f _ h | exact h.mono (f _) | exact h.elim
theorem IxD.mono {ds : List D} {i : Int} {K K' : D → Prop} (f : ∀ d, K d → K' d) (h : IxD ds i K) : IxD ds i K' := ⟨h.ex.imp fun k q => q.imp fun d q => ⟨q.1, q.2.1, f _ q.2.2⟩⟩
theorem IxT.mono {ds : List OT} {i : Int} {K K' : Nat → OT → Prop} (f : ∀ k d, K k d → K' k d) (h : IxT ds i K) : IxT ds i K' := ⟨h.ex.imp fun k q => q.imp fun d q => ⟨q.1, q.2.1, f _ _ q.2.2⟩⟩
theorem KeyP.mono {ks : List L2.Key} {y : D} {K K' : Nat → Prop} (f : ∀ k, K k → K' k) (h : KeyP ks y K) : KeyP ks y K' := ⟨h.ex.imp fun k q => q.imp fun j q => ⟨q.1, q.2.1, f _ q.2.2⟩⟩
theorem NthP.mono {ts : List OT} {k : Nat} {K K' : OT → Prop} (f : ∀ t, K t → K' t) (h : NthP ts k K) : NthP ts k K' := ⟨h.ex.imp fun t q => ⟨q.1, f _ q.2⟩⟩
theorem DicP.mono {kvs : List (D × D)} {y : D} {K K' : D → Prop} (f : ∀ d, K d → K' d) (h : DicP kvs y K) : DicP kvs y K' := ⟨h.ex.imp fun d q => ⟨q.1, f _ q.2⟩⟩
theorem SetP.mono {xs : List OT} {j : Nat} {x : OT} {K K' : List OT → Prop} (f : ∀ u, K u → K' u) (h : SetP xs j x K) : SetP xs j x K' := ⟨f _ h.k⟩
theorem DPutP.mono {ks : List L2.Key} {xs : List OT} {y : D} {x : OT} {K K' : List L2.Key → List OT → Prop} (f : ∀ a b, K a b → K' a b) (h : DPutP ks xs y x K) : DPutP ks xs y x K' := ⟨h.room, h.ex.imp fun k q => ⟨q.1, q.2.imp (fun q => q.imp fun j q => ⟨q.1, f _ _ q.2⟩) fun q => ⟨q.1, f _ _ q.2⟩⟩⟩
theorem ixLK_mono {d y : D} {K K' : D → Prop} (f : ∀ d, K d → K' d) (h : ixLK d y K) : ixLK d y K' := by
  unfold ixLK at h ⊢
  split at h
  · exact intK_mono (fun i q => q.mono f) h
  · exact intK_mono (fun i q => q.mono f) h
  · exact h.mono f
  · exact h.elim
theorem nodK_mono {g : Option (List L2.Key)} {ts : List OT} {y : D} {K K' : Nat → OT → Prop} (f : ∀ k t, K k t → K' k t) (h : nodK g ts y K) : nodK g ts y K' := by
  cases g with
  | none => exact intK_mono (fun i q => q.mono f) h
  | some ks => exact KeyP.mono (fun k q => q.mono (f k)) h
theorem ixK_mono {a : R} {y : D} {env : Env} {Q Q' : R → Env → Prop} (f : ∀ r e, Q r e → Q' r e) (h : ixK a y env Q) : ixK a y env Q' := by
  cases a with
  | own t =>
    cases t with
    | leaf d => exact ixLK_mono (fun d => f _ _) h
    | nod g ts => exact nodK_mono (fun k t q => by
        cases t with
        | leaf d => exact f _ _ q
        | nod _ _ => exact q) h
  | al v p =>
    refine lookK_mono (fun t q => ?_) h
    cases t with
    | leaf d => exact ixLK_mono (fun d => f _ _) q
    | nod g ts => exact nodK_mono (fun k t q => by
        cases t with
        | leaf d => exact f _ _ q
        | nod _ _ => exact f _ _ q) q
theorem SrtP.mono {xs : List D} {K K' : List D → Prop} (f : ∀ d, K d → K' d) (h : SrtP xs K) : SrtP xs K' := ⟨h.ex.imp fun u q => ⟨q.1, f _ q.2⟩⟩
section
variable {Γ : Ctx} {Q Q' : R → Env → Prop}
theorem wpO_mono {o : Op} {rs : List R} {env : Env} (f : ∀ r e, Q r e → Q' r e) (h : wpO o rs env Q) : wpO o rs env Q' := by
  unfold wpO at h ⊢
  cases hf : isFlat o with
  | true =>
    rw [hf] at h
    exact datsK_mono (fun ds q => wpF_mono (fun d => f _ _) q) h
  | false =>
    rw [hf] at h
    simp only at h ⊢
    split at h
    · exact shK_mono (fun x q => shK_mono (fun y q => addK_mono (fun t => f _ _) q) q) h
    · exact takesK_mono (fun ts e q => dtsK_mono (fun ds => f _ _) q) h
    · exact takesK_mono (fun ts e => f _ _) h
    · exact f _ _ h
    · exact f _ _ h
    · exact takeK_mono (fun t e q => dtK_mono (fun d => f _ _) q) h
    · exact datK_mono (fun d q => ixK_mono f q) h
    · refine shK_mono (fun d q => ?_) h
      split at q <;> first | exact f _ _ q | exact q.elim
    · refine shK_mono (fun d q => ?_) h
      split at q <;> first | exact f _ _ q | exact q.elim
    · refine shK_mono (fun d q => ?_) h
      split at q <;> first | exact q.mono fun ds => f _ _ | exact q.elim
    · exact datK_mono (fun d q => intK_mono (fun n q => q.mono (f _ _)) q) h
    · exact datK_mono (fun d q => intK_mono (fun n q => q.mono (f _ _)) q) h
    · refine shK_mono (fun d q => ?_) h
      split at q <;> first | exact f _ _ q | exact q.elim
    · exact h.elim
theorem wpSl_mono {r : R} {lo hi : Option Int} {env : Env} (f : ∀ r e, Q r e → Q' r e) (h : wpSl r lo hi env Q) : wpSl r lo hi env Q' := by
  refine shK_mono (fun d q => ?_) h
  split at q <;> first | exact f _ _ q | exact q.elim
theorem wpM_mono {m : Mt} {r : R} {rs : List R} {env : Env} (f : ∀ r e, Q r e → Q' r e) (h : wpM m r rs env Q) : wpM m r rs env Q' := by
  unfold wpM at h ⊢
  split at h
  · exact takeK_mono (fun t e q => lookK_mono (fun l q => lstK_mono (fun ts q => q.mono fun q => ⟨putK_mono (fun e => f _ _) q.k⟩) q) q) h
  · refine shK_mono (fun d q => ?_) h
    split at q
    · exact lookK_mono (fun l q => lstK_mono (fun ts q => q.mono fun q => ⟨putK_mono (fun e => f _ _) q.k⟩) q) q
    · exact q.elim
  · exact lookK_mono (fun l q => lstK_mono (fun ts q => ⟨q.ex.imp fun d q => ⟨q.1, putK_mono (fun e => f _ _) q.2⟩⟩) q) h
  · exact datK_mono (fun y q => intK_mono (fun i q => lookK_mono (fun l q => lstK_mono (fun ts q => LvP.mono (fun ds q => q.mono fun q => putK_mono (fun e => f _ _) q) q) q) q) q) h
  · exact datK_mono (fun d q => intK_mono (fun i q => lookK_mono (fun l q => lstK_mono (fun ts q => q.mono fun q => ⟨q.ex.imp fun k q => q.imp fun d q => ⟨q.1, q.2.1, putK_mono (fun e => f _ _) q.2.2⟩⟩) q) q) q) h
  · exact h.elim
theorem prepK_mono {keep : Nat → Bool} : ∀ {j : Nat} {rs : List R} {env : Env} {K K' : List R → Env → Prop}, (∀ r e, K r e → K' r e) → prepK keep j rs env K → prepK keep j rs env K'
  | _, [], _, _, _, f, h => f _ _ h
  | j, .own t :: rs, env, _, _, f, h => prepK_mono (rs := rs) (fun qs e => f _ _) h
  | j, .al i [] :: rs, env, K, K', f, h => by
    unfold prepK at h ⊢
    generalize keep j = y at h ⊢
    cases y with
    | true => exact prepK_mono (rs := rs) (fun qs e => f _ _) h
    | false =>
      simp only at h ⊢
      generalize lk env i = z at h ⊢
      cases z with
      | none => exact h
      | some t => exact dtK_mono (fun d q => stK_mono (fun e q => prepK_mono (rs := rs) (fun qs e => f _ _) q) q) h
  | _, .al _ (_ :: _) :: _, _, _, _, _, h => h.elim
theorem argK_mono {env : Env} : ∀ {rs : List R} {K K' : List OT → Prop}, (∀ r, K r → K' r) → argK env rs K → argK env rs K'
  | [], _, _, f, h => f _ h
  | r :: rs, _, _, f, h => treeK_mono (fun t q => argK_mono (rs := rs) (fun ts => f _) q) h
theorem dropK_mono : ∀ {rs : List R} {env : Env} {K K' : Env → Prop}, (∀ e, K e → K' e) → dropK rs env K → dropK rs env K'
  | [], _, _, _, f, h => f _ h
  | .own _ :: rs, env, _, _, f, h => dropK_mono (rs := rs) f h
  | .al i _ :: rs, env, _, _, f, h => stK_mono (fun e q => dropK_mono (rs := rs) f q) h
theorem giveK_mono : ∀ {rs : List R} {fin : List (Option OT)} {env : Env} {K K' : Env → Prop}, (∀ e, K e → K' e) → giveK rs fin env K → giveK rs fin env K'
  | [], _, _, _, _, f, h => f _ h
  | .own _ :: rs, fin, env, _, _, f, h => giveK_mono (rs := rs) f h
  | .al i _ :: rs, fin, env, _, _, f, h => by
    cases fin with
    | nil => exact h.elim
    | cons t fin => exact stK_mono (fun e q => giveK_mono (rs := rs) f q) h
theorem callK_mono {g : Nat} {rs : List R} {env : Env} (f : ∀ r e, Q r e → Q' r e) (h : callK Γ g rs env Q) : callK Γ g rs env Q' :=
  prepK_mono (fun qs e q => yesK_mono (fun q => argK_mono (fun ts q => q.mono fun t fin q => dropK_mono (fun e q => giveK_mono (fun e => f _ _) q) q) q) q) h
theorem srcK_mono {w : Bool} {r : R} {env : Env} {K K' : Src → Nat → Prop} (f : ∀ s n, K s n → K' s n) (h : srcK w r env K) : srcK w r env K' := by
  unfold srcK at h ⊢
  split at h
  · exact f _ _ h
  · exact f _ _ h
  · exact h.mono fun ds => f _ _
  · split at h
    · split at h
      · exact f _ _ h
      · exact h.elim
    · exact h.elim
  · exact h.elim
theorem rangeK_mono {ds : List D} {K K' : Src → Nat → Prop} (f : ∀ s n, K s n → K' s n) (h : rangeK ds K) : rangeK ds K' := by
  unfold rangeK at h ⊢
  split at h
  · exact intK_mono (fun i q => q.mono (f _ _)) h
  · exact i2K_mono (fun i j q => q.mono (f _ _)) h
  · exact h.elim
theorem zipK_mono {a b : OT} {K K' : Src → Nat → Prop} (f : ∀ s n, K s n → K' s n) (h : zipK a b K) : zipK a b K' := by
  unfold zipK at h ⊢
  split at h
  · exact f _ _ h
  · exact f _ _ h
  · exact h.mono fun ds => f _ _
  · exact h.mono fun ds => f _ _
  · exact h.mono fun ds q => q.mono fun es => f _ _
  · exact h.elim
theorem retK_mono {r : R} {env : Env} {K K' : OT → Env → Prop} (f : ∀ t e, K t e → K' t e) (h : retK r env K) : retK r env K' := by
  cases r with
  | own t => exact f _ _ h
  | al i p =>
    cases p with
    | cons _ _ => exact h.elim
    | nil =>
      unfold retK at h ⊢
      simp only at h ⊢
      generalize lk env i = z at h ⊢
      cases z with
      | none => exact h
      | some t => exact stK_mono (fun e => f _ e) h
end
theorem offK_mono : ∀ {e : Env} {v : Nat} {A B : Prop}, (A → B) → offK e v A → offK e v B
  | none :: r, 0, _, _, f, h => f h
  | some _ :: _, 0, _, _, f, h => h
  | x :: r, v + 1, A, B, f, h => by
    cases x <;> exact offK_mono (e := r) (v := v) f h
  | [], _, _, _, f, h => h
theorem aliK_mono {i v : Nat} {g : Option (List L2.Key)} {ts : List OT} {j : Nat} {e2 : Env} {K K' : Env → Prop} (f : ∀ e, K e → K' e) (h : aliK i v g ts j e2 K) : aliK i v g ts j e2 K' := by
  refine offK_mono (fun q => ?_) h
  split at q
  · exact stK_mono (fun ea q => q.mono fun us q => stK_mono f q) q
  · exact q.elim
mutual
theorem wpE_mono {Γ : Ctx} : ∀ (e : E) {env : Env} {Q Q' : R → Env → Prop}, (∀ r e, Q r e → Q' r e) → wpE Γ e env Q → wpE Γ e env Q'
  | .var i, env, Q, Q', f, h => by
    unfold wpE at h ⊢
    split at h
    · exact f _ _ h
    · exact f _ _ h
    · exact h.elim
  | .c d, env, Q, Q', f, h => by unfold wpE at h ⊢; exact f _ _ h
  | .op o as, env, Q, Q', f, h => by unfold wpE at h ⊢; exact wpEs_mono as (fun rs e q => wpO_mono f q) h
  | .and a b, env, Q, Q', f, h => by unfold wpE at h ⊢; exact wpE_mono a (fun r e q => boolK_mono (fun c q => q.mono (wpE_mono b f) (f _ _)) q) h
  | .or a b, env, Q, Q', f, h => by unfold wpE at h ⊢; exact wpE_mono a (fun r e q => boolK_mono (fun c q => q.mono (f _ _) (wpE_mono b f)) q) h
  | .not a, env, Q, Q', f, h => by unfold wpE at h ⊢; exact wpE_mono a (fun r e q => boolK_mono (fun c => f _ _) q) h
  | .ite c a b, env, Q, Q', f, h => by unfold wpE at h ⊢; exact wpE_mono c (fun r e q => boolK_mono (fun c q => q.mono (wpE_mono a f) (wpE_mono b f)) q) h
  | .chain o p a b c, env, Q, Q', f, h => by
    unfold wpE at h ⊢
    exact wpE_mono a (fun ra e1 q => noK_mono2 (wpE_mono b fun rb e2 q => yesK_mono (datsK_mono fun ds q => wpF_mono (fun d q => boolK_mono (fun k q => q.mono (noK_mono2 (wpE_mono c fun rc e3 q => datsK_mono (fun es q => wpF_mono (fun d => f _ _) q) q)) (f _ _)) q) q) q) q) h
  | .sl a lo hi, env, Q, Q', f, h => by unfold wpE at h ⊢; exact wpE_mono a (fun r e q => noK_mono2 (wpP_mono lo fun l e2 q => wpP_mono hi (fun u e3 q => wpSl_mono f q) q) q) h
  | .meth m o as, env, Q, Q', f, h => by unfold wpE at h ⊢; exact wpE_mono o (fun r e1 q => noK_mono2 (treeK_mono fun t q => lstK_mono (fun ts q => wpEs_mono as (fun rs e2 q => wpM_mono f q) q) q) q) h
  | .call g as kw perm, env, Q, Q', f, h => by
    unfold wpE at h ⊢
    refine wpEs_mono as (fun rs e1 q => noK_mono2 (wpEs_mono kw fun ks e2 q => noK_mono2 (yesK_mono fun q => ?_) q) q) h
    cases hp : pick (rs ++ ks) perm with
    | none => rw [hp] at q; exact q.elim
    | some qs => rw [hp] at q; exact callK_mono f q
  | .comp elt t it cond own, env, Q, Q', f, h => by
    unfold wpE at h ⊢
    exact wpIt_mono it (fun s n e1 q => ⟨q.hf, q.ex.imp fun ts q => q.imp fun e2 q => ⟨q.1, f _ _ q.2⟩⟩) h
  | .dct ks vs, env, Q, Q', f, h => by unfold wpE at h ⊢; exact wpEs_mono vs (fun rs e1 q => takesK_mono (fun ts e2 q => yesK_mono (f _ _) q) q) h
theorem wpEs_mono {Γ : Ctx} : ∀ (es : Es) {env : Env} {Q Q' : List R → Env → Prop}, (∀ r e, Q r e → Q' r e) → wpEs Γ es env Q → wpEs Γ es env Q'
  | .nil, env, Q, Q', f, h => by unfold wpEs at h ⊢; exact f _ _ h
  | .cons e es, env, Q, Q', f, h => by unfold wpEs at h ⊢; exact wpE_mono e (fun r e1 q => noK_mono2 (wpEs_mono es fun rs e2 => f _ _) q) h
theorem wpP_mono {Γ : Ctx} : ∀ (c : C) {env : Env} {Q Q' : Option Int → Env → Prop}, (∀ r e, Q r e → Q' r e) → wpP Γ c env Q → wpP Γ c env Q'
  | .non, env, Q, Q', f, h => by unfold wpP at h ⊢; exact f _ _ h
  | .some e, env, Q, Q', f, h => by
    unfold wpP at h ⊢
    refine wpE_mono e (fun r e1 q => ?_) h
    split at q
    · exact intK_mono (fun i => f _ _) q
    · exact q.elim
theorem wpIt_mono {Γ : Ctx} : ∀ (it : It) {env : Env} {Q Q' : Src → Nat → Env → Prop}, (∀ s n e, Q s n e → Q' s n e) → wpIt Γ it env Q → wpIt Γ it env Q'
  | .seq e, env, Q, Q', f, h => by unfold wpIt at h ⊢; exact wpE_mono e (fun r e1 q => srcK_mono (fun s n => f _ _ _) q) h
  | .enum e, env, Q, Q', f, h => by unfold wpIt at h ⊢; exact wpE_mono e (fun r e1 q => srcK_mono (fun s n => f _ _ _) q) h
  | .range as, env, Q, Q', f, h => by unfold wpIt at h ⊢; exact wpEs_mono as (fun rs e1 q => datsK_mono (fun ds q => rangeK_mono (fun s n => f _ _ _) q) q) h
  | .zip a b, env, Q, Q', f, h => by unfold wpIt at h ⊢; exact wpE_mono a (fun ra e1 q => takeK_mono (fun ta e2 q => wpE_mono b (fun rb e3 q => takeK_mono (fun tb e4 q => zipK_mono (fun s n => f _ _ _) q) q) q) q) h
theorem wpT_mono {Γ : Ctx} : ∀ (t : T) {x : OT} {env : Env} {Q Q' : Env → Prop}, (∀ e, Q e → Q' e) → wpT Γ t x env Q → wpT Γ t x env Q'
  | .nm i, x, env, Q, Q', f, h => by unfold wpT at h ⊢; exact stK_mono f h
  | .tup ts, x, env, Q, Q', f, h => by
    unfold wpT at h ⊢
    split at h
    · exact wpTs_mono ts f h
    · exact h.elim
  | .sub o i, x, env, Q, Q', f, h => by
    unfold wpT at h ⊢
    refine wpE_mono o (fun r e1 q => ?_) h
    split at q
    · refine noK_mono2 (wpE_mono i fun ri e2 q => datK_mono (fun d q => lookK_mono (fun l q => ?_) q) q) q
      split at q
      · exact intK_mono (fun k q => q.mono fun j u q => q.mono fun us => putK_mono f) q
      · exact q.mono fun a b => putK_mono f
      · exact q.elim
    · exact q.elim
theorem wpTs_mono {Γ : Ctx} : ∀ (t : Ts) {xs : List OT} {env : Env} {Q Q' : Env → Prop}, (∀ e, Q e → Q' e) → wpTs Γ t xs env Q → wpTs Γ t xs env Q'
  | .nil, xs, env, Q, Q', f, h => by
    unfold wpTs at h ⊢
    split at h
    · exact f _ h
    · exact h.elim
  | .cons t ts, xs, env, Q, Q', f, h => by
    unfold wpTs at h ⊢
    split at h
    · exact wpT_mono t (fun e q => wpTs_mono ts f q) h
    · exact h.elim
end
mutual
theorem wpS_mono {Γ : Ctx} : ∀ (s : S) {env : Env} {Q Q' : Out → Env → Prop}, (∀ o e, Q o e → Q' o e) → wpS Γ s env Q → wpS Γ s env Q'
  | .asg i e, env, Q, Q', f, h => by unfold wpS at h ⊢; exact wpE_mono e (fun r e1 q => takeK_mono (fun t e2 q => stK_mono (fun e3 => f _ _) q) q) h
  | .par ts es, env, Q, Q', f, h => by unfold wpS at h ⊢; exact wpEs_mono es (fun rs e1 q => takesK_mono (fun xs e2 q => wpTs_mono ts (fun e3 => f _ _) q) q) h
  | .unp t e, env, Q, Q', f, h => by unfold wpS at h ⊢; exact wpE_mono e (fun r e1 q => takeK_mono (fun x e2 q => wpT_mono _ (fun e3 => f _ _) q) q) h
  | .put o i e, env, Q, Q', f, h => by unfold wpS at h ⊢; exact wpE_mono e (fun r e1 q => takeK_mono (fun x e2 q => wpT_mono _ (fun e3 => f _ _) q) q) h
  | .ex e, env, Q, Q', f, h => by unfold wpS at h ⊢; exact wpE_mono e (fun r e1 => f _ _) h
  | .ret e, env, Q, Q', f, h => by unfold wpS at h ⊢; exact wpE_mono e (fun r e1 q => retK_mono (fun t e2 => f _ _) q) h
  | .retN, env, Q, Q', f, h => by unfold wpS at h ⊢; exact f _ _ h
  | .ife c a b, env, Q, Q', f, h => by unfold wpS at h ⊢; exact wpE_mono c (fun r e1 q => boolK_mono (fun k q => q.mono (wpSs_mono a f) (wpSs_mono b f)) q) h
  | .loop t it b, env, Q, Q', f, h => by unfold wpS at h ⊢; exact wpIt_mono it (fun s n e1 q => ⟨q.hf, q.ex.imp fun o q => q.imp fun e q => ⟨q.1, f _ _ q.2⟩⟩) h
  | .whl c b, env, Q, Q', f, h => by unfold wpS at h ⊢; exact ⟨h.ex.imp fun o q => q.imp fun e q => ⟨q.1, f _ _ q.2⟩⟩
  | .brk, env, Q, Q', f, h => by unfold wpS at h ⊢; exact f _ _ h
  | .cont, env, Q, Q', f, h => by unfold wpS at h ⊢; exact f _ _ h
  | .pass, env, Q, Q', f, h => by unfold wpS at h ⊢; exact f _ _ h
theorem wpSs_mono {Γ : Ctx} : ∀ (s : Ss) {env : Env} {Q Q' : Out → Env → Prop}, (∀ o e, Q o e → Q' o e) → wpSs Γ s env Q → wpSs Γ s env Q'
  | .nil, env, Q, Q', f, h => by unfold wpSs at h ⊢; exact f _ _ h
  | .cons s ss, env, Q, Q', f, h => by
    unfold wpSs at h ⊢
    refine wpS_mono s (fun o e q => ?_) h
    cases o with
    | nx => exact ⟨wpSs_mono ss f q.a⟩
    | bk => exact f _ _ q
    | ct => exact f _ _ q
    | ret t => exact f _ _ q
  | .ali i v key s ss, env, Q, Q', f, h => by
    unfold wpSs at h ⊢
    refine noK_mono2 (fun q => ?_) h
    split at q
    · refine nodK_mono (fun j t q => ?_) q
      split at q
      · exact yesK_mono (fun q => stK_mono (fun ea q => stK_mono (fun e1 q => wpS_mono s (fun o e2 q => aliK_mono (fun e3 q => by
          cases o with
          | nx => exact ⟨wpSs_mono ss f q.a⟩
          | bk => exact f _ _ q
          | ct => exact f _ _ q
          | ret t => exact f _ _ q) q) q) q) q) q
      · exact q.elim
    · exact q.elim
end
/-- a statement that goes on, by what stands behind it -/
theorem ss_cut {Γ : Ctx} {s : S} {ss : Ss} {env : Env} {Q : Out → Env → Prop} (A : Env → Prop) (h : wpS Γ s env fun o e => o = .nx ∧ A e) (q : ∀ e, A e → wpSs Γ ss e Q) : wpSs Γ (.cons s ss) env Q := by
  unfold wpSs
  refine wpS_mono s (fun o e h => ?_) h
  obtain ⟨rfl, h⟩ := h
  exact ⟨q e h⟩
theorem fillV {K : List (Option OT) → Prop} (vs : List Nat) (e : Env) (h : allV vs.length fun l => K l) : K (getsL vs e) := by
  have h1 : allV (getsL vs e).length fun l => K l := by rw [getsL_len]; exact h
  exact allV_eq h1
def NxP (o : Out) (A : Prop) : Prop := match o with
  | .nx => A
  | _ => False
/-- .. by the slots that it changes -/
theorem Bd.cut {Γ : Ctx} {s : S} {ss : Ss} {env : Env} {Q : Out → Env → Prop} (vs : List Nat) (I : List (Option OT) → Prop) (h : wpS Γ s env fun o e => NxP o (AgP vs env e (I (getsL vs e)))) (q : allV vs.length fun l => I l → setsK vs l env fun e => Bd (wpSs Γ ss e Q)) : Bd (wpSs Γ (.cons s ss) env Q) := by
  refine ⟨?_⟩
  unfold wpSs
  refine wpS_mono s (fun o e h => ?_) h
  have go : AgP vs env e (I (getsL vs e)) → Bd (wpSs Γ ss e Q) := fun h => setsK_eq h.rel (fillV vs e q h.a)
  cases o with
  | nx => exact go h
  | ct => exact h.elim
  | bk => exact h.elim
  | ret t => exact h.elim
/-- an expression's either way, by the slots that it changes -/
theorem If2.cut {Γ : Ctx} {c : Bool} {a b : E} {env : Env} {Q : R → Env → Prop} (vs : List Nat) (I : R → List (Option OT) → Prop) (h : If2 c (wpE Γ a env fun r e => AgP vs env e (I r (getsL vs e))) (wpE Γ b env fun r e => AgP vs env e (I r (getsL vs e)))) (q : ∀ r, allV vs.length fun l => I r l → setsK vs l env fun e => Q r e) : If2 c (wpE Γ a env Q) (wpE Γ b env Q) :=
  have go : ∀ r e, AgP vs env e (I r (getsL vs e)) → Q r e := fun r e h => setsK_eq h.rel (fillV vs e (q r) h.a)
  h.mono (wpE_mono a go) (wpE_mono b go)
/-- an expression by what is told of it -/
theorem e_cut {Γ : Ctx} {a : E} {env : Env} {Q : R → Env → Prop} (A : R → Env → Prop) (h : wpE Γ a env A) (q : ∀ r e, A r e → Q r e) : wpE Γ a env Q := wpE_mono a q h
/-- either way the same -/
theorem If2.cutE {Γ : Ctx} {c : Bool} {a b : E} {env : Env} {Q : R → Env → Prop} (A : R → Env → Prop) (h : If2 c (wpE Γ a env A) (wpE Γ b env A)) (q : ∀ r e, A r e → Q r e) : If2 c (wpE Γ a env Q) (wpE Γ b env Q) := h.mono (wpE_mono a q) (wpE_mono b q)
theorem If2.cutS {Γ : Ctx} {c : Bool} {a b : Ss} {env : Env} {Q : Out → Env → Prop} (A : Out → Env → Prop) (h : If2 c (wpSs Γ a env A) (wpSs Γ b env A)) (q : ∀ r e, A r e → Q r e) : If2 c (wpSs Γ a env Q) (wpSs Γ b env Q) := h.mono (wpSs_mono a q) (wpSs_mono b q)
/-! ### shown and compared -/
structure Od (d : D) : Prop where
  fit : fits d = true
  ok : PyData.strOk d.shown = true
theorem Pl.od {n m : Nat} {d : D} (h : Pl n m d) (hn : n ≤ 64) (hm : m ≤ 100000) : Od d := ⟨h.fits hn hm, h.ok⟩
theorem Od.text {d : D} (h : Od d) : SeqAt.shaped (.str d.shown) = true := by
  unfold SeqAt.shaped
  have e : (PyData.str d.shown).canLay0 = PyData.strOk d.shown := by unfold PyData.canLay0; rfl
  rw [e, h.ok]; rfl
theorem RepP.od {d : D} {A : Prop} (h : Od d) (a : A) : RepP d A := ⟨h.fit, a⟩
theorem Od.of {n m : Nat} {d : D} (h : Pl n m d) (hb : n ≤ 64 ∧ m ≤ 100000) : Od d := h.od hb.1 hb.2
theorem EqP.od {d : D} {K : Bool → Prop} (h : Od d) (k : K true) : EqP (.str d.shown) (.str d.shown) K := ⟨h.text, h.text, by rw [eqv_str]; exact k⟩
theorem EqP.ods {a b : D} {K : Bool → Prop} (h : Od a) (g : Od b) (k : K (PyData.eqv (.str a.shown) (.str b.shown))) : EqP (.str a.shown) (.str b.shown) K := ⟨h.text, g.text, k⟩
theorem Od.all {xs : List D} (h : xs.all (fun d => fits d && PyData.strOk d.shown) = true) : ∀ d ∈ xs, Od d := fun d hd => by
  have := List.all_eq_true.mp h d hd
  obtain ⟨a, b⟩ := Bool.and_eq_true_iff.mp this
  exact ⟨a, b⟩
/-! ### texts shown -/
theorem char_small (c : Char) : c.toNat < 0x110000 := by
  rcases c.valid with h | ⟨_, h⟩
  · exact Nat.lt_of_lt_of_le h (by decide)
  · exact h
theorem reprChar_small {q c : Nat} (h : c < 0x110000) : ∀ d ∈ Builtin.Str.reprChar q c, d < 0x110000 := by
  have hex : ∀ (w : Nat), ∀ d ∈ List.replicate (w - ((Nat.toDigits 16 c).map Char.toNat).length) 48 ++ (Nat.toDigits 16 c).map Char.toNat, d < 0x110000 := fun w d hd => by
    rcases List.mem_append.mp hd with hd | hd
    · rw [(List.mem_replicate.mp hd).2]; decide
    · obtain ⟨z, _, rfl⟩ := List.mem_map.mp hd
      exact char_small z
  intro d hd
  have pre : ∀ (a b w : Nat), a < 0x110000 → b < 0x110000 → d ∈ [a, b] ++ (List.replicate (w - ((Nat.toDigits 16 c).map Char.toNat).length) 48 ++ (Nat.toDigits 16 c).map Char.toNat) → d < 0x110000 := fun a b w ha hb hd => by
    rcases List.mem_append.mp hd with hd | hd
    · simp only [List.mem_cons, List.not_mem_nil, or_false] at hd
      rcases hd with rfl | rfl <;> assumption
    · exact hex w d hd
  have two : ∀ (a b : Nat), a < 0x110000 → b < 0x110000 → d ∈ [a, b] → d < 0x110000 := fun a b ha hb hd => by
    simp only [List.mem_cons, List.not_mem_nil, or_false] at hd
    rcases hd with rfl | rfl <;> assumption
  unfold Builtin.Str.reprChar at hd
  simp only at hd
  split at hd
  · exact two _ _ (by decide) h hd
  · split at hd
    · exact two _ _ (by decide) (by decide) hd
    · split at hd
      · exact two _ _ (by decide) (by decide) hd
      · split at hd
        · exact two _ _ (by decide) (by decide) hd
        · split at hd
          · rw [List.mem_singleton.mp hd]; exact h
          · split at hd
            · exact pre _ _ 2 (by decide) (by decide) hd
            · split at hd
              · exact pre _ _ 4 (by decide) (by decide) hd
              · exact pre _ _ 8 (by decide) (by decide) hd
theorem strOk_iff {s : Str} : PyData.strOk s = true ↔ ∀ c ∈ s.cps.toList, c < 0x110000 := by
  unfold PyData.strOk
  rw [← Array.all_toList, List.all_eq_true]
  simp
theorem strOk_repr {x : Str} (h : PyData.strOk x = true) : PyData.strOk (reprText x) = true := by
  rw [strOk_iff] at h ⊢
  have hq : reprQuote x < 0x110000 := by unfold reprQuote; split <;> decide
  have go : ∀ (l : List Nat) (acc : Array Nat), (∀ c ∈ l, c < 0x110000) → (∀ c ∈ acc.toList, c < 0x110000) → ∀ c ∈ (l.foldl (fun out c => out ++ (Builtin.Str.reprChar (reprQuote x) c).toArray) acc).toList, c < 0x110000 := by
    intro l
    induction l with
    | nil => intro acc _ h; exact h
    | cons c l ih =>
      intro acc hl ha
      refine ih _ (fun d hd => hl d (List.mem_cons_of_mem _ hd)) fun d hd => ?_
      rw [Array.toList_append] at hd
      rcases List.mem_append.mp hd with hd | hd
      · exact ha d hd
      · exact reprChar_small (hl c List.mem_cons_self) d hd
  unfold reprText
  intro c hc
  rw [Array.toList_push] at hc
  rcases List.mem_append.mp hc with hc | hc
  · rw [← Array.foldl_toList] at hc
    exact go _ _ h (fun c hc => by
      have : c ∈ [reprQuote x] := hc
      rw [List.mem_singleton.mp this]; exact hq) c hc
  · rw [List.mem_singleton.mp hc]; exact hq
theorem Pl.txt {s : Str} {m : Nat} (h : s.cps.size ≤ m) (ok : PyData.strOk s = true) : Pl 0 m (.str s) := by
  refine ⟨Nat.le_refl _, by unfold PyData.bulk; exact h, ?_, rfl, by unfold PyData.canLay0; exact ok, by unfold PyData.shown; exact strOk_repr ok⟩
  unfold PyData.leavesShort
  rw [strOk_iff] at ok
  rw [List.all_eq_true]
  intro c hc
  exact decide_eq_true (Nat.lt_trans (ok c hc) (by decide))
theorem Pl.dec {i : Int} (h : -1000000000000 ≤ i ∧ i ≤ 1000000000000) : Pl 0 64 (.str (toString i)) := by
  refine Pl.txt ?_ (strOk_of _)
  have q := int_text_length_le10 (a := i) (k := 60) (by decide) (Nat.lt_of_le_of_lt (show i.natAbs ≤ 1000000000000 by omega) (by decide))
  show (Str.ofString (toString i)).length ≤ 64
  rw [Str.ofString_eq_toList]
  show ((toString i).toList.map Char.toNat).toArray.size ≤ 64
  simp only [List.size_toArray, List.length_map]
  have : (toString i).toList.length = (toString i).length := rfl
  omega
theorem log2_small {i : Int} (h : -1000000000000 ≤ i ∧ i ≤ 1000000000000) : i.natAbs.log2 < 1920 := by
  by_cases z : i.natAbs = 0
  · rw [z]; decide
  · exact (Nat.log2_lt z).mpr (Nat.lt_of_le_of_lt (show i.natAbs ≤ 1000000000000 by omega) (by decide))
end PyI

/-! A reading of the own syntax by kinds of data: that draws come to an end, and what they give. -/
namespace PyI
open PySem
namespace A
/-- kinds of data -/
inductive Ty where
  | none | bool
  | int (lo hi : Int)
  | str (x : Str)
  | txt
  | dic
  | seq (k : Bool) (t : Ty) (lo hi : Nat)
  | tup (k : Bool) (ts : Ty)
  | nil | cons (a r : Ty)
  | or (a b : Ty)
  deriving DecidableEq
def sq (k : Bool) (xs : List D) : D := match k with
  | true => .list xs
  | false => .tuple xs
theorem sq_inj {k k' : Bool} {xs ys : List D} (h : sq k xs = sq k' ys) : k = k' ∧ xs = ys := by
  cases k <;> cases k' <;> first | (cases h; exact ⟨rfl, rfl⟩) | cases h
mutual
def has : Ty → D → Prop
  | .none, d => d = .none
  | .bool, d => ∃ b, d = .bool b
  | .int lo hi, d => ∃ i, d = .int i ∧ lo ≤ i ∧ i ≤ hi
  | .str x, d => d = .str x
  | .txt, d => ∃ x : Str, d = .str x ∧ x.cps.size ≤ 100 ∧ PyData.strOk x = true
  | .dic, d => d = .dict []
  | .seq k t lo hi, d => ∃ xs, d = sq k xs ∧ lo ≤ xs.length ∧ xs.length ≤ hi ∧ ∀ x ∈ xs, has t x
  | .tup k ts, d => ∃ xs, d = sq k xs ∧ hasL ts xs
  | .nil, _ => False
  | .cons _ _, _ => False
  | .or a b, d => has a d ∨ has b d
def hasL : Ty → List D → Prop
  | .nil, xs => xs = []
  | .cons a r, xs => ∃ x ys, xs = x :: ys ∧ has a x ∧ hasL r ys
  | _, _ => False
end
/-! ### sizes -/
def both (a b : Option (Nat × Nat)) (f : Nat × Nat → Nat × Nat → Nat × Nat) : Option (Nat × Nat) := match a, b with
  | some p, some q => some (f p q)
  | _, _ => .none
theorem both_eq {a b : Option (Nat × Nat)} {f : Nat × Nat → Nat × Nat → Nat × Nat} {r : Nat × Nat} (h : both a b f = some r) : ∃ p q, a = some p ∧ b = some q ∧ r = f p q := by
  cases a <;> cases b <;> first | cases h
  exact ⟨_, _, rfl, rfl, rfl⟩
def strSm (x : Str) : Bool := decide (x.cps.size ≤ 100) && PyData.strOk x
mutual
def bnd : Ty → Option (Nat × Nat)
  | .none => some (0, 0)
  | .bool => some (0, 0)
  | .int lo hi => if -(10 ^ 60) < lo ∧ hi < 10 ^ 60 then some (0, 0) else .none
  | .str x => if strSm x = true then some (0, 100) else .none
  | .txt => some (0, 100)
  | .dic => .none
  | .seq _ t _ hi => if hi = 0 then some (1, 0) else (bnd t).map fun p => (p.1 + 1, hi * (p.2 + 1))
  | .tup _ ts => (bndL ts).map fun p => (p.1 + 1, p.2)
  | .nil => some (0, 0)
  | .cons _ _ => .none
  | .or a b => both (bnd a) (bnd b) fun p q => (max p.1 q.1, max p.2 q.2)
def bndL : Ty → Option (Nat × Nat)
  | .nil => some (0, 0)
  | .cons a r => both (bnd a) (bndL r) fun p q => (max p.1 q.1, p.2 + 1 + q.2)
  | _ => .none
end
theorem pl_sq {k : Bool} {n m : Nat} {xs : List D} (h : Pls n m xs) : Pl (n + 1) m (sq k xs) := by
  cases k with
  | true => exact Pl.list h
  | false => exact Pl.tuple h
mutual
theorem bnd_ok : ∀ (t : Ty) {n m : Nat} {d : D}, bnd t = some (n, m) → has t d → Pl n m d
  | .none, n, m, d, h, q => by cases h; cases q; exact Pl.none
  | .bool, n, m, d, h, q => by cases h; obtain ⟨b, rfl⟩ := q; exact Pl.bool
  | .int lo hi, n, m, d, h, q => by
    unfold bnd at h
    split at h
    · rename_i c
      cases h; obtain ⟨i, rfl, h1, h2⟩ := q
      exact Pl.int (by omega)
    · cases h
  | .str x, n, m, d, h, q => by
    unfold bnd at h
    split at h
    · rename_i c
      cases h; cases q
      unfold strSm at c
      simp only [Bool.and_eq_true, decide_eq_true_eq] at c
      exact Pl.txt c.1 c.2
    · cases h
  | .txt, n, m, d, h, q => by cases h; obtain ⟨x, rfl, h1, h2⟩ := q; exact Pl.txt h1 h2
  | .dic, n, m, d, h, q => by cases h
  | .seq k t lo hi, n, m, d, h, q => by
    obtain ⟨xs, rfl, h1, h2, h3⟩ := q
    unfold bnd at h
    split at h
    · rename_i c
      cases h
      subst c
      cases xs with
      | nil => exact pl_sq Pls.nil
      | cons _ _ => simp at h2
    · obtain ⟨⟨a, b⟩, h4, h5⟩ := Option.map_eq_some_iff.mp h
      cases h5
      exact pl_sq ((Pls.all fun x hx => bnd_ok t h4 (h3 x hx)).mono (Nat.le_refl _) (Nat.mul_le_mul_right _ h2))
  | .tup k ts, n, m, d, h, q => by
    obtain ⟨xs, rfl, h1⟩ := q
    unfold bnd at h
    obtain ⟨⟨a, b⟩, h4, h5⟩ := Option.map_eq_some_iff.mp h
    cases h5
    exact pl_sq (bndL_ok ts h4 h1)
  | .nil, _, _, _, _, q => q.elim
  | .cons _ _, _, _, _, _, q => q.elim
  | .or a b, n, m, d, h, q => by
    unfold bnd at h
    obtain ⟨⟨p1, p2⟩, ⟨q1, q2⟩, h1, h2, h3⟩ := both_eq h
    cases h3
    rcases q with q | q
    · exact (bnd_ok a h1 q).mono (Nat.le_max_left _ _) (Nat.le_max_left _ _)
    · exact (bnd_ok b h2 q).mono (Nat.le_max_right _ _) (Nat.le_max_right _ _)
theorem bndL_ok : ∀ (t : Ty) {n m : Nat} {xs : List D}, bndL t = some (n, m) → hasL t xs → Pls n m xs
  | .nil, n, m, d, h, q => by cases h; cases q; exact Pls.nil
  | .cons a r, n, m, d, h, q => by
    unfold bndL at h
    obtain ⟨x, ys, rfl, h1, h2⟩ := q
    obtain ⟨⟨p1, p2⟩, ⟨q1, q2⟩, h3, h4, h5⟩ := both_eq h
    cases h5
    exact Pls.cons (bnd_ok a h3 h1) (bndL_ok r h4 h2)
  | .none, _, _, _, h, _ => by cases h
  | .bool, _, _, _, h, _ => by cases h
  | .int _ _, _, _, _, h, _ => by cases h
  | .str _, _, _, _, h, _ => by cases h
  | .txt, _, _, _, h, _ => by cases h
  | .dic, _, _, _, h, _ => by cases h
  | .seq _ _ _ _, _, _, _, h, _ => by cases h
  | .tup _ _, _, _, _, h, _ => by cases h
  | .or _ _, _, _, _, h, _ => by cases h
end
/-- what may be tried: shown, and no more items than a line -/
structure Vd (d : D) : Prop where
  o : Od d
  l : ∀ xs, d = .tuple xs ∨ d = .list xs → xs.length ≤ sizeLine
theorem bulk_len : ∀ xs : List D, xs.length ≤ PyData.bulkAll xs
  | [] => Nat.zero_le _
  | x :: r => by have := bulk_len r; unfold PyData.bulkAll; rw [List.length_cons]; omega
theorem Pl.vd {n m : Nat} {d : D} (h : Pl n m d) (hn : n ≤ 64) (hm : m ≤ 100000) : Vd d := ⟨h.od hn hm, fun xs e => by
  have b := h.bk
  have := bulk_len xs
  rw [sizeLine_eq]
  rcases e with rfl | rfl <;> (unfold PyData.bulk at b; omega)⟩
theorem vd_dic : Vd (.dict []) := ⟨Od.all (xs := [.dict []]) (by decide +kernel) _ List.mem_cons_self, fun xs e => by rcases e with e | e <;> cases e⟩
def vd : Ty → Bool
  | .dic => true
  | .or a b => vd a && vd b
  | t => match bnd t with
    | some (n, m) => decide (n ≤ 64) && decide (m ≤ 100000)
    | .none => false
theorem vd_ok : ∀ {t : Ty} {d : D}, vd t = true → has t d → Vd d := by
  intro t
  induction t with
  | dic => intro d _ q; cases q; exact vd_dic
  | or a b iha ihb =>
    intro d h q
    have h := Bool.and_eq_true_iff.mp h
    exact q.elim (iha h.1) (ihb h.2)
  | _ =>
    intro d h q
    unfold vd at h
    split at h
    · rename_i n m h1
      simp only [Bool.and_eq_true, decide_eq_true_eq] at h
      exact Pl.vd (bnd_ok _ h1 q) h.1 h.2
    · cases h
/-! ### one kind within another -/
def lenT : Ty → Nat
  | .cons _ r => lenT r + 1
  | _ => 0
theorem hasL_len : ∀ {t : Ty} {xs : List D}, hasL t xs → xs.length = lenT t := by
  intro t
  induction t with
  | nil => intro xs h; cases h; rfl
  | cons a r _ ih => intro xs h; obtain ⟨x, ys, rfl, _, h⟩ := h; rw [List.length_cons, ih h]; rfl
  | _ => intro xs h; exact h.elim
def allT (f : Ty → Bool) : Ty → Bool
  | .nil => true
  | .cons a r => f a && allT f r
  | _ => false
theorem allT_ok {f : Ty → Bool} {P : D → Prop} (hf : ∀ t d, f t = true → has t d → P d) : ∀ {t : Ty} {xs : List D}, allT f t = true → hasL t xs → ∀ x ∈ xs, P x := by
  intro t
  induction t with
  | nil => intro xs _ h; cases h; intro x hx; cases hx
  | cons a r _ ih =>
    intro xs h q x hx
    obtain ⟨y, ys, rfl, q1, q2⟩ := q
    have h := Bool.and_eq_true_iff.mp h
    rcases List.mem_cons.mp hx with rfl | hx
    · exact hf _ _ h.1 q1
    · exact ih h.2 q2 x hx
  | _ => intro xs _ h; exact h.elim
def subL (f : Ty → Ty → Bool) : Ty → Ty → Bool
  | .nil, .nil => true
  | .cons a r, .cons b s => f a b && subL f r s
  | _, _ => false
theorem subL_ok {f : Ty → Ty → Bool} (hf : ∀ a b d, f a b = true → has a d → has b d) : ∀ {s t : Ty} {xs : List D}, subL f s t = true → hasL s xs → hasL t xs := by
  intro s
  induction s with
  | nil => intro t xs h q; cases t <;> first | exact q | cases h
  | cons a r _ ih =>
    intro t xs h q
    cases t <;> first | cases h | skip
    obtain ⟨y, ys, rfl, q1, q2⟩ := q
    have h := Bool.and_eq_true_iff.mp h
    exact ⟨y, ys, rfl, hf _ _ _ h.1 q1, ih h.2 q2⟩
  | _ => intro t xs _ q; exact q.elim
def sub : Nat → Ty → Ty → Bool
  | 0, _, _ => false
  | n + 1, a, b => decide (a = b) || match a, b with
    | .nil, _ => true
    | .int lo hi, .int lo' hi' => decide (lo' ≤ lo) && decide (hi ≤ hi')
    | .seq k t lo hi, .seq k' t' lo' hi' => (k == k') && (decide (lo' ≤ lo) && (decide (hi ≤ hi') && (decide (hi = 0) || sub n t t')))
    | .tup k ts, .tup k' ts' => (k == k') && subL (sub n) ts ts'
    | .tup k ts, .seq k' t lo hi => (k == k') && (decide (lo ≤ lenT ts) && (decide (lenT ts ≤ hi) && allT (fun a => sub n a t) ts))
    | .or a1 a2, b => sub n a1 b && sub n a2 b
    | .str x, .txt => strSm x
    | .str x, .or b1 b2 => sub n (.str x) b1 || sub n (.str x) b2
    | a, .or b1 b2 => sub n a b1 || sub n a b2
    | _, _ => false
theorem sub_ok : ∀ {n : Nat} {a b : Ty} {d : D}, sub n a b = true → has a d → has b d
  | 0, _, _, _, h, _ => by cases h
  | n + 1, a, b, d, h, q => by
    have ih : ∀ a b d, sub n a b = true → has a d → has b d := fun a b d => sub_ok
    unfold sub at h
    rcases Bool.or_eq_true_iff.mp h with h | h
    · rw [← of_decide_eq_true h]; exact q
    · split at h
      · exact q.elim
      · simp only [Bool.and_eq_true, decide_eq_true_eq] at h
        obtain ⟨i, rfl, h1, h2⟩ := q
        exact ⟨i, rfl, by omega, by omega⟩
      · simp only [Bool.and_eq_true, Bool.or_eq_true, decide_eq_true_eq, beq_iff_eq] at h
        obtain ⟨rfl, h1, h2, h3⟩ := h
        obtain ⟨xs, rfl, q1, q2, q3⟩ := q
        refine ⟨xs, rfl, by omega, by omega, fun x hx => ?_⟩
        rcases h3 with h3 | h3
        · cases xs with
          | nil => cases hx
          | cons _ _ => simp at q2; omega
        · exact ih _ _ _ h3 (q3 x hx)
      · simp only [Bool.and_eq_true, beq_iff_eq] at h
        obtain ⟨rfl, h1⟩ := h
        obtain ⟨xs, rfl, q1⟩ := q
        exact ⟨xs, rfl, subL_ok ih h1 q1⟩
      · simp only [Bool.and_eq_true, decide_eq_true_eq, beq_iff_eq] at h
        obtain ⟨rfl, h1, h2, h3⟩ := h
        obtain ⟨xs, rfl, q1⟩ := q
        have := hasL_len q1
        exact ⟨xs, rfl, by omega, by omega, allT_ok (fun t d g => ih t _ d g) h3 q1⟩
      · simp only [Bool.and_eq_true] at h
        exact q.elim (ih _ _ _ h.1) (ih _ _ _ h.2)
      · cases q
        unfold strSm at h
        simp only [Bool.and_eq_true, decide_eq_true_eq] at h
        exact ⟨_, rfl, h.1, h.2⟩
      · simp only [Bool.or_eq_true] at h
        exact h.elim (fun h => .inl (ih _ _ _ h q)) fun h => .inr (ih _ _ _ h q)
      · simp only [Bool.or_eq_true] at h
        exact h.elim (fun h => .inl (ih _ _ _ h q)) fun h => .inr (ih _ _ _ h q)
      · cases h
/-! ### either of two -/
def joinL (f : Ty → Ty → Ty) : Ty → Ty → Ty
  | .cons a r, .cons b s => .cons (f a b) (joinL f r s)
  | .cons a r, _ => .cons a r
  | .nil, _ => .nil
  | _, t => t
def foldJ (f : Ty → Ty → Ty) : Ty → Ty → Ty
  | .cons a r, t => foldJ f r (f a t)
  | _, t => t
def mg : Ty → Ty → Bool
  | .int _ _, .int _ _ => true
  | .seq k _ _ _, .seq k' _ _ _ => k == k'
  | .seq k _ _ _, .tup k' _ => k == k'
  | .tup k _, .seq k' _ _ _ => k == k'
  | .tup k _, .tup k' _ => k == k'
  | .txt, .str _ => true
  | .str _, .txt => true
  | _, _ => false
def fl : Nat := 24
def join : Nat → Ty → Ty → Ty
  | 0, a, b => .or a b
  | n + 1, a, b => if sub fl a b = true then b else if sub fl b a = true then a else match a, b with
    | .int lo hi, .int lo' hi' => .int (min lo lo') (max hi hi')
    | .seq k t lo hi, .seq k' t' lo' hi' => if k = k' then .seq k (join n t t') (min lo lo') (max hi hi') else .or a b
    | .tup k ts, .tup k' ts' => if k = k' then (if lenT ts = lenT ts' then .tup k (joinL (join n) ts ts') else .seq k (foldJ (join n) ts (foldJ (join n) ts' .nil)) (min (lenT ts) (lenT ts')) (max (lenT ts) (lenT ts'))) else .or a b
    | .tup k ts, .seq k' t lo hi => if k = k' then .seq k (foldJ (join n) ts t) (min (lenT ts) lo) (max (lenT ts) hi) else .or a b
    | .seq k t lo hi, .tup k' ts => if k = k' then .seq k (foldJ (join n) ts t) (min (lenT ts) lo) (max (lenT ts) hi) else .or a b
    | .or a1 a2, b => if mg a1 b = true then .or (join n a1 b) a2 else .or a1 (join n a2 b)
    | a, .or b1 b2 => if mg a b1 = true then .or (join n a b1) b2 else .or b1 (join n a b2)
    | a, b => .or a b
theorem joinL_ok {f : Ty → Ty → Ty} (hf : ∀ a b d, has a d ∨ has b d → has (f a b) d) : ∀ {s t : Ty} {xs : List D}, lenT s = lenT t → (hasL s xs ∨ hasL t xs) → hasL (joinL f s t) xs := by
  intro s
  induction s with
  | cons a r _ ih =>
    intro t xs hl q
    cases t with
    | cons b u =>
      have hl : lenT r = lenT u := Nat.succ.inj hl
      rcases q with ⟨x, ys, rfl, q1, q2⟩ | ⟨x, ys, rfl, q1, q2⟩
      · exact ⟨x, ys, rfl, hf _ _ _ (.inl q1), ih hl (.inl q2)⟩
      · exact ⟨x, ys, rfl, hf _ _ _ (.inr q1), ih hl (.inr q2)⟩
    | _ => cases hl
  | nil =>
    intro t xs hl q
    rcases q with q | q
    · exact q
    · cases t with
      | nil => exact q
      | cons _ _ => cases hl
      | _ => exact q.elim
  | _ =>
    intro t xs hl q
    rcases q with q | q
    · exact q.elim
    · exact q
theorem foldJ_ok {f : Ty → Ty → Ty} (hf : ∀ a b d, has a d ∨ has b d → has (f a b) d) : ∀ {ts t : Ty}, (∀ d, has t d → has (foldJ f ts t) d) ∧ ∀ xs, hasL ts xs → ∀ x ∈ xs, has (foldJ f ts t) x := by
  intro ts
  induction ts with
  | cons a r _ ih =>
    intro t
    obtain ⟨h1, h2⟩ := ih (t := f a t)
    refine ⟨fun d h => h1 d (hf _ _ _ (.inr h)), ?_⟩
    rintro _ ⟨y, ys, rfl, q1, q2⟩ x hx
    rcases List.mem_cons.mp hx with rfl | hx
    · exact h1 _ (hf _ _ _ (.inl q1))
    · exact h2 ys q2 x hx
  | nil =>
    intro t
    refine ⟨fun d h => h, ?_⟩
    intro xs h x hx
    cases h
    cases hx
  | _ =>
    intro t
    refine ⟨fun d h => h, ?_⟩
    intro xs h x hx
    exact h.elim
theorem sq_tup {f : Ty → Ty → Ty} (hf : ∀ a b d, has a d ∨ has b d → has (f a b) d) {k : Bool} {ts t : Ty} {lo hi : Nat} {d : D} (h : has (.tup k ts) d ∨ has (.seq k t lo hi) d) : has (.seq k (foldJ f ts t) (min (lenT ts) lo) (max (lenT ts) hi)) d := by
  obtain ⟨g1, g2⟩ := foldJ_ok hf (ts := ts) (t := t)
  rcases h with ⟨xs, rfl, h⟩ | ⟨xs, rfl, h1, h2, h3⟩
  · have := hasL_len h
    exact ⟨xs, rfl, by omega, by omega, g2 xs h⟩
  · exact ⟨xs, rfl, by omega, by omega, fun x hx => g1 x (h3 x hx)⟩
theorem join_ok : ∀ (n : Nat) (a b : Ty) (d : D), has a d ∨ has b d → has (join n a b) d
  | 0, a, b, d, h => h
  | n + 1, a, b, d, h => by
    have ih := join_ok n
    unfold join
    split
    · rename_i c; exact h.elim (sub_ok c) id
    split
    · rename_i c; exact h.elim id (sub_ok c)
    split
    · rcases h with ⟨i, rfl, h1, h2⟩ | ⟨i, rfl, h1, h2⟩
      · exact ⟨i, rfl, by omega, by omega⟩
      · exact ⟨i, rfl, by omega, by omega⟩
    · split
      · rename_i c; subst c
        rcases h with ⟨xs, rfl, h1, h2, h3⟩ | ⟨xs, rfl, h1, h2, h3⟩
        · exact ⟨xs, rfl, by omega, by omega, fun x hx => ih _ _ _ (.inl (h3 x hx))⟩
        · exact ⟨xs, rfl, by omega, by omega, fun x hx => ih _ _ _ (.inr (h3 x hx))⟩
      · exact h
    · split
      · rename_i c; subst c
        split
        · rename_i c
          rcases h with ⟨xs, rfl, h⟩ | ⟨xs, rfl, h⟩
          · exact ⟨xs, rfl, joinL_ok ih c (.inl h)⟩
          · exact ⟨xs, rfl, joinL_ok ih c (.inr h)⟩
        · rename_i ts _ ts' _
          refine sq_tup ih (h.imp id fun g => ?_)
          obtain ⟨ys, e, g⟩ := g
          exact ⟨ys, e, Nat.le_of_eq (hasL_len g).symm, Nat.le_of_eq (hasL_len g), (foldJ_ok ih).2 ys g⟩
      · exact h
    · split
      · rename_i c; subst c
        exact sq_tup ih h
      · exact h
    · split
      · rename_i c; subst c
        exact sq_tup ih h.symm
      · exact h
    · split
      · rcases h with (h | h) | h
        · exact .inl (ih _ _ _ (.inl h))
        · exact .inr h
        · exact .inl (ih _ _ _ (.inr h))
      · rcases h with (h | h) | h
        · exact .inl h
        · exact .inr (ih _ _ _ (.inl h))
        · exact .inr (ih _ _ _ (.inr h))
    · split
      · rcases h with h | (h | h)
        · exact .inl (ih _ _ _ (.inl h))
        · exact .inl (ih _ _ _ (.inr h))
        · exact .inr h
      · rcases h with h | (h | h)
        · exact .inr (ih _ _ _ (.inl h))
        · exact .inl h
        · exact .inr (ih _ _ _ (.inr h))
    · exact h
/-! ### trees -/
inductive AV where
  | d (t : Ty)
  | l (t : AV) (lo hi : Nat)
  | o (n : Nat)
  deriving DecidableEq
/-- what is known of an opaque tree -/
structure Opq where
  P : Nat → OT → Prop
  nod : ∀ n t, P n t → ∃ g ts, t = .nod g ts
  up : ∀ n m t, P n t → n ≤ m → P m t
section
variable (O : Opq)
def γ : AV → OT → Prop
  | .d t, x => ∃ d, x = .leaf d ∧ has t d
  | .l t lo hi, x => ∃ ts, x = .nod none ts ∧ lo ≤ ts.length ∧ ts.length ≤ hi ∧ ∀ y ∈ ts, γ t y
  | .o n, x => O.P n x
def AV.sub : AV → AV → Bool
  | .d a, b => (match b with
    | .d b => A.sub fl a b
    | _ => decide (a = .nil))
  | .l t lo hi, .l t' lo' hi' => (decide (hi = 0) || t.sub t') && (decide (lo' ≤ lo) && decide (hi ≤ hi'))
  | .o n, .o m => decide (n ≤ m)
  | _, _ => false
def AV.join : AV → AV → Option AV
  | .d a, b => (match b with
    | .d b => some (.d (A.join fl a b))
    | b => if a = .nil then some b else none)
  | .l t lo hi, b => (match b with
    | .l t' lo' hi' => (match t.join t' with
      | some u => some (.l u (min lo lo') (max hi hi'))
      | none => if hi = 0 then some (.l t' (min lo lo') (max hi hi')) else if hi' = 0 then some (.l t (min lo lo') (max hi hi')) else none)
    | .d .nil => some (.l t lo hi)
    | _ => none)
  | .o n, b => (match b with
    | .o m => some (.o (max n m))
    | _ => none)
variable {O}
theorem AV.sub_ok : ∀ {a b : AV} {x : OT}, a.sub b = true → γ O a x → γ O b x := by
  intro a
  induction a with
  | d a =>
    intro b x h q
    obtain ⟨d, rfl, q⟩ := q
    unfold AV.sub at h
    split at h
    · exact ⟨d, rfl, A.sub_ok h q⟩
    · have := of_decide_eq_true h
      subst this
      exact q.elim
  | l t lo hi ih =>
    intro b x h q
    cases b with
    | l t' lo' hi' =>
      obtain ⟨ts, rfl, q1, q2, q3⟩ := q
      unfold AV.sub at h
      simp only [Bool.and_eq_true, Bool.or_eq_true, decide_eq_true_eq] at h
      obtain ⟨h1, h2, h3⟩ := h
      refine ⟨ts, rfl, by omega, by omega, fun y hy => ?_⟩
      rcases h1 with h1 | h1
      · cases ts with
        | nil => cases hy
        | cons _ _ => simp at q2; omega
      · exact ih h1 (q3 y hy)
    | _ => cases h
  | o n =>
    intro b x h q
    cases b with
    | o m => exact O.up _ _ _ q (of_decide_eq_true h)
    | _ => cases h
theorem AV.join_ok : ∀ {a b c : AV} {x : OT}, a.join b = some c → γ O a x ∨ γ O b x → γ O c x := by
  intro a
  induction a with
  | d a =>
    intro b c x h q
    cases b with
    | d b =>
      cases h
      rcases q with ⟨d, rfl, q⟩ | ⟨d, rfl, q⟩
      · exact ⟨d, rfl, A.join_ok _ _ _ _ (.inl q)⟩
      · exact ⟨d, rfl, A.join_ok _ _ _ _ (.inr q)⟩
    | l t lo hi =>
      replace h : (if a = .nil then some (AV.l t lo hi) else none) = some c := h
      split at h
      · rename_i e; subst e; cases h
        rcases q with ⟨d, rfl, q⟩ | q
        · exact q.elim
        · exact q
      · cases h
    | o n =>
      replace h : (if a = .nil then some (AV.o n) else none) = some c := h
      split at h
      · rename_i e; subst e; cases h
        rcases q with ⟨d, rfl, q⟩ | q
        · exact q.elim
        · exact q
      · cases h
  | l t lo hi ih =>
    intro b c x h q
    cases b with
    | l t' lo' hi' =>
      unfold AV.join at h
      simp only at h
      split at h
      · rename_i u hu
        cases h
        rcases q with ⟨ts, rfl, q1, q2, q3⟩ | ⟨ts, rfl, q1, q2, q3⟩
        · exact ⟨ts, rfl, by omega, by omega, fun y hy => ih hu (.inl (q3 y hy))⟩
        · exact ⟨ts, rfl, by omega, by omega, fun y hy => ih hu (.inr (q3 y hy))⟩
      · split at h
        · rename_i c; cases h
          rcases q with ⟨ts, rfl, q1, q2, q3⟩ | ⟨ts, rfl, q1, q2, q3⟩
          · refine ⟨ts, rfl, by omega, by omega, fun y hy => ?_⟩
            cases ts with
            | nil => cases hy
            | cons _ _ => simp at q2; omega
          · exact ⟨ts, rfl, by omega, by omega, q3⟩
        · split at h
          · rename_i c; cases h
            rcases q with ⟨ts, rfl, q1, q2, q3⟩ | ⟨ts, rfl, q1, q2, q3⟩
            · exact ⟨ts, rfl, by omega, by omega, q3⟩
            · refine ⟨ts, rfl, by omega, by omega, fun y hy => ?_⟩
              cases ts with
              | nil => cases hy
              | cons _ _ => simp at q2; omega
          · cases h
    | d b =>
      cases b with
      | nil =>
        cases h
        rcases q with q | ⟨d, rfl, q⟩
        · exact q
        · exact q.elim
      | _ => cases h
    | o _ => cases h
  | o n =>
    intro b c x h q
    cases b with
    | o m =>
      cases h
      rcases q with q | q
      · exact O.up _ _ _ q (Nat.le_max_left _ _)
      · exact O.up _ _ _ q (Nat.le_max_right _ _)
    | _ => cases h
/-- as a datum -/
def AV.dat : AV → Option Ty
  | .d t => some t
  | .l t lo hi => (t.dat).map fun u => .seq true u lo hi
  | .o _ => none
theorem dats_len : ∀ ts : List OT, (OT.dats ts).length = ts.length
  | [] => rfl
  | t :: ts => by show (OT.dats ts).length + 1 = _; rw [dats_len ts]; rfl
theorem dats_mem : ∀ {ts : List OT} {d : D}, d ∈ OT.dats ts → ∃ t ∈ ts, d = t.dat
  | [], _, h => nomatch h
  | t :: ts, d, h => by
    rcases List.mem_cons.mp (show d ∈ t.dat :: OT.dats ts from h) with rfl | h
    · exact ⟨t, List.mem_cons_self, rfl⟩
    · obtain ⟨u, h1, h2⟩ := dats_mem h
      exact ⟨u, List.mem_cons_of_mem _ h1, h2⟩
theorem AV.dat_ok : ∀ {a : AV} {t : Ty} {x : OT}, a.dat = some t → γ O a x → has t x.dat := by
  intro a
  induction a with
  | d a => intro t x h q; cases h; obtain ⟨d, rfl, q⟩ := q; exact q
  | l a lo hi ih =>
    intro t x h q
    obtain ⟨u, h1, h2⟩ := Option.map_eq_some_iff.mp h
    cases h2
    obtain ⟨ts, rfl, q1, q2, q3⟩ := q
    refine ⟨OT.dats ts, rfl, by rw [dats_len]; exact q1, by rw [dats_len]; exact q2, fun y hy => ?_⟩
    obtain ⟨t, h3, rfl⟩ := dats_mem hy
    exact ih h1 (q3 t h3)
  | o n => intro t x h; cases h
/-- .. whose items are data -/
def AV.sh : AV → Option Ty
  | .d t => some t
  | .l (.d t) lo hi => some (.seq true t lo hi)
  | _ => none
theorem leaves_of {t : Ty} : ∀ {ts : List OT}, (∀ y ∈ ts, γ O (.d t) y) → ∃ ds : List D, ts = ds.map .leaf ∧ ∀ d ∈ ds, has t d
  | [], _ => ⟨[], rfl, fun _ h => nomatch h⟩
  | x :: ts, h => by
    obtain ⟨d, rfl, h1⟩ := h x List.mem_cons_self
    obtain ⟨ds, rfl, h2⟩ := leaves_of (ts := ts) fun y hy => h y (List.mem_cons_of_mem _ hy)
    exact ⟨d :: ds, rfl, fun y hy => by
      rcases List.mem_cons.mp hy with rfl | hy
      · exact h1
      · exact h2 y hy⟩
end
end A
end PyI

namespace PyI
open PySem
namespace A
/-! ### slots -/
inductive AS where
  | any | fr
  | v (a : AV)
  deriving DecidableEq
structure AEnv where
  sl : List AS
  fx : List (Nat × Nat)
  deriving DecidableEq
def AEnv.at (e : AEnv) (i : Nat) : AS := (e.sl[i]?).getD .any
def offFx (i : Nat) (fx : List (Nat × Nat)) : List (Nat × Nat) := fx.filter fun p => p.1 != i && p.2 != i
def AEnv.set (e : AEnv) (i : Nat) (s : AS) : AEnv := ⟨e.sl.set i s, offFx i e.fx⟩
def dO (x : Option OT) : Option D := x.map OT.dat
def lenD : D → Option Nat
  | .list xs => some xs.length
  | .tuple xs => some xs.length
  | _ => none
def slen (env : Env) (j : Nat) : Option Nat := (dO (lk env j)).bind lenD
def Fx (p : Nat × Nat) (env : Env) : Prop := ∃ n m : Nat, dO (lk env p.1) = some (.int n) ∧ slen env p.2 = some m ∧ n < m
structure St (tc : List Nat) (a b : Env) : Prop where
  len : b.length = a.length
  eq : ∀ j, j ∉ tc → dO (lk b j) = dO (lk a j)
theorem St.refl (tc : List Nat) (a : Env) : St tc a a := ⟨rfl, fun _ _ => rfl⟩
theorem St.trans {tc uc : List Nat} {a b c : Env} (h : St tc a b) (q : St uc b c) : St (tc ++ uc) a c := ⟨q.len.trans h.len, fun j hj =>
  (q.eq j fun z => hj (List.mem_append_right _ z)).trans (h.eq j fun z => hj (List.mem_append_left _ z))⟩
theorem St.mono {tc uc : List Nat} {a b : Env} (h : St tc a b) (q : ∀ i ∈ tc, i ∈ uc) : St uc a b := ⟨h.len, fun j hj => h.eq j fun z => hj (q j z)⟩
theorem lk_set : ∀ {env : Env} {i j : Nat} {v : Option OT}, lk (env.set i v) j = if i = j ∧ i < env.length then v else lk env j
  | [], _, _, _ => by simp [lk]
  | x :: r, 0, 0, v => by simp [lk]
  | x :: r, 0, j + 1, v => by simp [lk]
  | x :: r, i + 1, 0, v => by simp [lk]
  | x :: r, i + 1, j + 1, v => by
    show lk (r.set i v) j = _
    rw [lk_set]
    simp [lk]
theorem lk_lt : ∀ {env : Env} {i : Nat} {t : OT}, lk env i = some t → i < env.length
  | x :: r, 0, t, h => by simp
  | x :: r, i + 1, t, h => by have := lk_lt (env := r) h; rw [List.length_cons]; omega
theorem stK_of : ∀ {env : Env} {i : Nat} {v : Option OT} {K : Env → Prop}, i < env.length → K (env.set i v) → stK env i v K
  | x :: r, 0, v, K, _, h => h
  | x :: r, i + 1, v, K, hl, h => stK_of (env := r) (Nat.lt_of_succ_lt_succ hl) h
  | [], _, _, _, hl, _ => by simp at hl
theorem St.set {env : Env} {i : Nat} {v : Option OT} : St [i] env (env.set i v) := ⟨by rw [List.length_set], fun j hj => by
  rw [lk_set, if_neg]
  rintro ⟨rfl, _⟩
  exact hj List.mem_cons_self⟩
theorem St.same {env : Env} {i : Nat} {v : Option OT} (h : dO v = dO (lk env i)) : St [] env (env.set i v) := ⟨by rw [List.length_set], fun j _ => by
  rw [lk_set]
  split
  · rename_i c; rw [h, c.1]
  · rfl⟩
theorem slen_st {tc : List Nat} {a b : Env} (h : St tc a b) {j : Nat} (hj : j ∉ tc) : slen b j = slen a j := by
  unfold slen
  rw [h.eq j hj]
theorem Fx.st {tc : List Nat} {a b : Env} (h : St tc a b) {p : Nat × Nat} (h1 : p.1 ∉ tc) (h2 : p.2 ∉ tc) (q : Fx p a) : Fx p b := by
  obtain ⟨n, m, q1, q2, q3⟩ := q
  exact ⟨n, m, by rw [h.eq _ h1]; exact q1, by rw [slen_st h h2]; exact q2, q3⟩
section
variable (O : Opq)
def γS : AS → Option OT → Prop
  | .any, _ => True
  | .fr, x => x = none ∨ ∃ d, x = some (.leaf d)
  | .v a, x => ∃ t, x = some t ∧ γ O a t
structure G (ae : AEnv) (env : Env) : Prop where
  len : ae.sl.length ≤ env.length
  sl : ∀ i, γS O (ae.at i) (lk env i)
  fx : ∀ p ∈ ae.fx, Fx p env
end
section
variable {O : Opq}
theorem AEnv.at_set {e : AEnv} {i j : Nat} {s : AS} : (e.set i s).at j = if i = j ∧ i < e.sl.length then s else e.at j := by
  unfold AEnv.set AEnv.at
  simp only
  rw [List.getElem?_set]
  by_cases c : i = j
  · subst c
    by_cases q : i < e.sl.length
    · simp [q]
    · simp [q]
  · simp [c]
theorem fx_set {i : Nat} {fx : List (Nat × Nat)} {env : Env} {v : Option OT} (h : ∀ p ∈ fx, Fx p env) : ∀ p ∈ offFx i fx, Fx p (env.set i v) := fun p hp => by
  unfold offFx at hp
  obtain ⟨h1, h2⟩ := List.mem_filter.mp hp
  simp only [Bool.and_eq_true, bne_iff_ne, ne_eq] at h2
  exact (h p h1).st St.set (fun z => h2.1 (List.mem_singleton.mp z)) fun z => h2.2 (List.mem_singleton.mp z)
theorem AEnv.at_out {e : AEnv} {i : Nat} (h : e.sl.length ≤ i) : e.at i = .any := by
  unfold AEnv.at
  rw [List.getElem?_eq_none h]; rfl
theorem G.set {ae : AEnv} {env : Env} (h : G O ae env) {i : Nat} {s : AS} {v : Option OT} (hs : γS O s v) : G O (ae.set i s) (env.set i v) := by
  have hl := h.len
  refine ⟨by rw [List.length_set]; show (ae.sl.set i s).length ≤ _; rw [List.length_set]; exact hl, fun j => ?_, fx_set h.fx⟩
  rw [lk_set, AEnv.at_set]
  by_cases c : i = j
  · subst c
    by_cases c2 : i < ae.sl.length
    · rw [if_pos ⟨rfl, c2⟩, if_pos ⟨rfl, by omega⟩]; exact hs
    · rw [if_neg (fun z => c2 z.2), AEnv.at_out (by omega)]; exact trivial
  · rw [if_neg (fun z => c z.1), if_neg (fun z => c z.1)]; exact h.sl j
theorem G.lt {ae : AEnv} {env : Env} (h : G O ae env) {i : Nat} {a : AV} (e : ae.at i = .v a) : ∃ t, lk env i = some t ∧ γ O a t ∧ i < env.length := by
  have := h.sl i
  rw [e] at this
  obtain ⟨t, h1, h2⟩ := this
  exact ⟨t, h1, h2, lk_lt h1⟩
/-! ### results -/
inductive Tg where
  | no
  | sq (j : Nat)
  | lt (j : Nat)
  | ln (j : Nat)
  deriving DecidableEq
def tgOk : Tg → D → Env → Prop
  | .no, _, _ => True
  | .sq j, d, env => ∃ m, lenD d = some m ∧ slen env j = some m
  | .lt j, d, env => ∃ n m : Nat, d = .int n ∧ slen env j = some m ∧ n < m
  | .ln j, d, env => ∃ m : Nat, d = .int m ∧ slen env j = some m
def Tg.off (tc : List Nat) : Tg → Tg
  | .no => .no
  | .sq j => if tc.contains j = true then .no else .sq j
  | .lt j => if tc.contains j = true then .no else .lt j
  | .ln j => if tc.contains j = true then .no else .ln j
theorem tg_st {tc : List Nat} {a b : Env} (h : St tc a b) {g : Tg} {d : D} (q : tgOk g d a) : tgOk (g.off tc) d b := by
  cases g with
  | no => exact trivial
  | sq j =>
    show tgOk (if tc.contains j = true then Tg.no else Tg.sq j) d b
    split
    · exact trivial
    · rename_i c
      obtain ⟨m, q1, q2⟩ := q
      exact ⟨m, q1, by rw [slen_st h fun z => c (List.contains_iff_mem.mpr z)]; exact q2⟩
  | lt j =>
    show tgOk (if tc.contains j = true then Tg.no else Tg.lt j) d b
    split
    · exact trivial
    · rename_i c
      obtain ⟨n, m, q1, q2, q3⟩ := q
      exact ⟨n, m, q1, by rw [slen_st h fun z => c (List.contains_iff_mem.mpr z)]; exact q2, q3⟩
  | ln j =>
    show tgOk (if tc.contains j = true then Tg.no else Tg.ln j) d b
    split
    · exact trivial
    · rename_i c
      obtain ⟨m, q1, q2⟩ := q
      exact ⟨m, q1, by rw [slen_st h fun z => c (List.contains_iff_mem.mpr z)]; exact q2⟩
inductive AR where
  | own (a : AV) (g : Tg)
  | al (i : Nat)
  deriving DecidableEq
def γR (O : Opq) : AR → R → Env → Prop
  | .own a g, r, env => ∃ t, r = .own t ∧ γ O a t ∧ tgOk g t.dat env
  | .al i, r, _ => r = .al i []
def AR.off (tc : List Nat) : AR → AR
  | .own a g => .own a (g.off tc)
  | .al i => .al i
theorem γR.st {tc : List Nat} {a b : Env} (h : St tc a b) {ar : AR} {r : R} (q : γR O ar r a) : γR O (ar.off tc) r b := by
  cases ar with
  | own x g => obtain ⟨t, rfl, q1, q2⟩ := q; exact ⟨t, rfl, q1, tg_st h q2⟩
  | al i => exact q
theorem γR.deep {ar : AR} {r : R} {env : Env} (q : γR O ar r env) : r.deep = false := by
  cases ar with
  | own x g => obtain ⟨t, rfl, q1, q2⟩ := q; rfl
  | al i => cases q; rfl
inductive F2 {α β : Type} (P : α → β → Prop) : List α → List β → Prop
  | nil : F2 P [] []
  | cons {a : α} {b : β} {as : List α} {bs : List β} : P a b → F2 P as bs → F2 P (a :: as) (b :: bs)
theorem F2.imp {α β : Type} {P Q : α → β → Prop} {as : List α} {bs : List β} (h : F2 P as bs) (q : ∀ a b, P a b → Q a b) : F2 Q as bs := by
  induction h with
  | nil => exact .nil
  | cons h1 _ ih => exact .cons (q _ _ h1) ih
theorem F2.length {α β : Type} {P : α → β → Prop} {as : List α} {bs : List β} (h : F2 P as bs) : as.length = bs.length := by
  induction h with
  | nil => rfl
  | cons h1 _ ih => rw [List.length_cons, List.length_cons, ih]
theorem F2.get {α β : Type} {P : α → β → Prop} {as : List α} {bs : List β} (h : F2 P as bs) : ∀ {i : Nat} {a : α}, as[i]? = some a → ∃ b, bs[i]? = some b ∧ P a b := by
  induction h with
  | nil => intro i a h; simp at h
  | @cons a b as bs h1 _ ih =>
    intro i x hx
    cases i with
    | zero => cases hx; exact ⟨b, rfl, h1⟩
    | succ i => exact ih (i := i) (by simpa using hx)
theorem F2.app {α β : Type} {P : α → β → Prop} {as as' : List α} {bs bs' : List β} (h : F2 P as bs) (q : F2 P as' bs') : F2 P (as ++ as') (bs ++ bs') := by
  induction h with
  | nil => exact q
  | cons h1 _ ih => exact .cons h1 ih
theorem F2.pick {α β : Type} {P : α → β → Prop} {as : List α} {bs : List β} (h : F2 P as bs) : ∀ {is : List Nat} {as' : List α}, pick as is = some as' → ∃ bs', pick bs is = some bs' ∧ F2 P as' bs'
  | [], _, e => by cases e; exact ⟨[], rfl, .nil⟩
  | i :: is, as', e => by
    unfold PyI.pick at e
    split at e
    · rename_i a ha
      obtain ⟨rs, h1, rfl⟩ := Option.map_eq_some_iff.mp e
      obtain ⟨b, h2, h3⟩ := h.get ha
      obtain ⟨bs', h4, h5⟩ := h.pick h1
      exact ⟨b :: bs', by unfold PyI.pick; rw [h2]; simp only; rw [h4]; rfl, .cons h3 h5⟩
    · cases e
theorem anyDeep_no {ars : List AR} {rs : List R} {env : Env} (h : F2 (fun a r => γR O a r env) ars rs) : anyDeep rs = false := by
  induction h with
  | nil => rfl
  | cons h1 _ ih => unfold anyDeep; rw [h1.deep, ih]; rfl
def AR.tree : AR → AEnv → Option AV
  | .own a _, _ => some a
  | .al i, ae => match ae.at i with
    | .v a => some a
    | _ => none
theorem tree_ok {ar : AR} {ae : AEnv} {env : Env} {r : R} {a : AV} (h : ar.tree ae = some a) (g : G O ae env) (q : γR O ar r env) : ∃ t, r.tree env = some t ∧ γ O a t := by
  cases ar with
  | own x y => cases h; obtain ⟨t, rfl, q1, _⟩ := q; exact ⟨t, rfl, q1⟩
  | al i =>
    cases q
    unfold AR.tree at h
    simp only at h
    split at h
    · rename_i b hb
      cases h
      obtain ⟨t, h1, h2, _⟩ := g.lt hb
      refine ⟨t, ?_, h2⟩
      show env.look i [] = some t
      unfold Env.look
      rw [lk_eq h1]
      cases t <;> rfl
    · cases h
theorem treeK_of {r : R} {env : Env} {t : OT} {K : OT → Prop} (h : r.tree env = some t) (k : K t) : treeK r env K := by
  cases r with
  | own u => cases h; exact k
  | al i p =>
    show lookK env i p K
    unfold R.tree Env.look at h
    simp only at h
    unfold lookK
    have e : lk env i = (env[i]?).getD none := lk_get
    cases hq : env[i]? with
    | none => rw [hq] at h; cases h
    | some x =>
      cases x with
      | none => rw [hq] at h; cases h
      | some u =>
        rw [hq] at h e
        rw [e]
        simp only [Option.getD_some]
        cases p with
        | nil =>
          simp only at h
          have : u = t := by cases u <;> (cases h; rfl)
          subst this; exact k
        | cons k' p => exact ⟨t, h, k⟩
theorem dtK_of {t : OT} {K : D → Prop} (k : K t.dat) : dtK t K := by
  cases t with
  | leaf d => exact k
  | nod g ts => cases g with
    | none => exact ⟨k⟩
    | some ks => exact ⟨k⟩
theorem tree_treeK {ar : AR} {ae : AEnv} {env : Env} {r : R} {a : AV} {K : OT → Prop} (h : ar.tree ae = some a) (g : G O ae env) (q : γR O ar r env) (k : ∀ t, γ O a t → K t) : treeK r env K := by
  obtain ⟨t, h1, h2⟩ := tree_ok h g q
  exact treeK_of h1 (k t h2)
/-- as data -/
def AR.tag : AR → AEnv → Tg
  | .own _ g, _ => g
  | .al i, ae => match ae.at i with
    | .v (.l _ _ _) => .sq i
    | _ => .no
def AR.dt (ar : AR) (ae : AEnv) : Option (Ty × Tg) := (ar.tree ae).bind fun a => a.dat.map fun t => (t, ar.tag ae)
def dTs : List AR → AEnv → Option (List (Ty × Tg))
  | [], _ => some []
  | r :: rs, ae => match r.dt ae, dTs rs ae with
    | some t, some ts => some (t :: ts)
    | _, _ => none
def hasG (env : Env) (p : Ty × Tg) (d : D) : Prop := has p.1 d ∧ tgOk p.2 d env
theorem tag_ok {ar : AR} {ae : AEnv} {env : Env} {r : R} {t : OT} (g : G O ae env) (q : γR O ar r env) (h : r.tree env = some t) : tgOk (ar.tag ae) t.dat env := by
  cases ar with
  | own x y => obtain ⟨u, rfl, _, q2⟩ := q; cases h; exact q2
  | al i =>
    cases q
    unfold AR.tag
    simp only
    split
    · rename_i u lo hi hb
      obtain ⟨t', h1, h2, _⟩ := g.lt hb
      obtain ⟨ts, rfl, q1, _, _⟩ := h2
      have e : R.tree env (.al i []) = some (.nod none ts) := by
        show env.look i [] = _
        unfold Env.look
        rw [lk_eq h1]; rfl
      rw [e] at h
      cases h
      refine ⟨ts.length, by show some (OT.dats ts).length = _; rw [dats_len], ?_⟩
      unfold slen dO
      rw [h1]
      show some (OT.dats ts).length = _
      rw [dats_len]
    · exact trivial
theorem dt_ok {ar : AR} {ae : AEnv} {env : Env} {r : R} {p : Ty × Tg} (h : ar.dt ae = some p) (g : G O ae env) (q : γR O ar r env) : ∃ t, r.tree env = some t ∧ hasG env p t.dat := by
  obtain ⟨a, h1, h2⟩ := Option.bind_eq_some_iff.mp h
  obtain ⟨u, h3, rfl⟩ := Option.map_eq_some_iff.mp h2
  obtain ⟨t, h4, h5⟩ := tree_ok h1 g q
  exact ⟨t, h4, AV.dat_ok h3 h5, tag_ok g q h4⟩
theorem dats_K {ae : AEnv} {env : Env} (g : G O ae env) : ∀ {ars : List AR} {rs : List R} {ts : List (Ty × Tg)} {K : List D → Prop}, dTs ars ae = some ts → F2 (fun a r => γR O a r env) ars rs → (∀ ds, F2 (hasG env) ts ds → K ds) → datsK rs env K
  | [], _, _, K, h, q, k => by cases q; cases h; exact k [] .nil
  | a :: as, _, ts, K, h, q, k => by
    cases q with
    | cons q1 q2 =>
      unfold dTs at h
      split at h
      · rename_i t us h1 h2
        cases h
        obtain ⟨x, h3, h4⟩ := dt_ok h1 g q1
        exact treeK_of h3 (dtK_of (dats_K g h2 q2 fun ds hd => k _ (.cons h4 hd)))
      · cases h
/-- shared items -/
def AR.shT (ar : AR) (ae : AEnv) : Option (Ty × Tg) := (ar.tree ae).bind fun a => a.sh.map fun t => (t, ar.tag ae)
theorem sh_K {ae : AEnv} {env : Env} (g : G O ae env) {ar : AR} {r : R} {p : Ty × Tg} {K : D → Prop} (h : ar.shT ae = some p) (q : γR O ar r env) (k : ∀ d, hasG env p d → K d) : shK r env K := by
  obtain ⟨a, h1, h2⟩ := Option.bind_eq_some_iff.mp h
  obtain ⟨u, h3, rfl⟩ := Option.map_eq_some_iff.mp h2
  obtain ⟨t, h4, h5⟩ := tree_ok h1 g q
  have tg := tag_ok g q h4
  refine treeK_of h4 ?_
  cases a with
  | d x => cases h3; obtain ⟨d, rfl, h6⟩ := h5; exact k d ⟨h6, tg⟩
  | l x lo hi =>
    obtain ⟨ts, rfl, q1, q2, q3⟩ := h5
    cases x with
    | d x =>
      cases h3
      obtain ⟨ds, rfl, q4⟩ := leaves_of q3
      rw [List.length_map] at q1 q2
      refine LvP.of (k _ ⟨⟨ds, rfl, q1, q2, q4⟩, ?_⟩)
      have e : OT.dat (.nod none (ds.map .leaf)) = .list ds := by show PyData.list (OT.dats _) = _; rw [dats_leafs]
      rw [e] at tg; exact tg
    | _ => cases h3
  | o n => cases h3
def AR.takeT : AR → AEnv → Option (AV × AEnv)
  | .own a _, ae => some (a, ae)
  | .al i, ae => match ae.at i with
    | .v a => (a.dat).map fun t => (.d t, ae.set i (.v (.d t)))
    | _ => none
theorem take_K {ae ae' : AEnv} {env : Env} (g : G O ae env) {ar : AR} {r : R} {a : AV} {K : OT → Env → Prop} (h : ar.takeT ae = some (a, ae')) (q : γR O ar r env) (k : ∀ t e, γ O a t → G O ae' e → St [] env e → K t e) : takeK r env K := by
  cases ar with
  | own x y => cases h; obtain ⟨t, rfl, q1, _⟩ := q; exact k t env q1 g (St.refl _ _)
  | al i =>
    cases q
    unfold AR.takeT at h
    simp only at h
    split at h
    · rename_i b hb
      obtain ⟨t, h1, h2⟩ := Option.map_eq_some_iff.mp h
      cases h2
      obtain ⟨u, h3, h4, hl⟩ := g.lt hb
      have hd := AV.dat_ok h1 h4
      unfold takeK
      simp only
      rw [h3]
      refine dtK_of (stK_of hl (k _ _ ⟨_, rfl, hd⟩ (g.set ⟨_, rfl, _, rfl, hd⟩) (St.same ?_)))
      rw [h3]; rfl
    · cases h
def takesT : List AR → AEnv → Option (List AV × AEnv)
  | [], ae => some ([], ae)
  | r :: rs, ae => match r.takeT ae with
    | some (a, ae1) => match takesT rs ae1 with
      | some (as, ae2) => some (a :: as, ae2)
      | none => none
    | none => none
/-- results of which nothing but the tree is wanted -/
def AR.bare : AR → AR
  | .own a _ => .own a .no
  | .al i => .al i
theorem γR.bare {ar : AR} {r : R} {env env' : Env} (q : γR O ar r env) : γR O ar.bare r env' := by
  cases ar with
  | own x y => obtain ⟨t, rfl, q1, _⟩ := q; exact ⟨t, rfl, q1, trivial⟩
  | al i => exact q
theorem bare_takeT {ar : AR} {ae : AEnv} : ar.bare.takeT ae = ar.takeT ae := by cases ar <;> rfl
theorem takes_K : ∀ {ars : List AR} {rs : List R} {as : List AV} {ae ae' : AEnv} {env env0 : Env} {K : List OT → Env → Prop}, G O ae env → takesT ars ae = some (as, ae') → F2 (fun a r => γR O a r env0) ars rs → (∀ ts e, F2 (γ O) as ts → G O ae' e → St [] env e → K ts e) → takesK rs env K
  | [], _, _, _, _, env, _, K, g, h, q, k => by cases q; cases h; exact k [] env .nil g (St.refl _ _)
  | a :: as, _, ts, ae, ae', env, env0, K, g, h, q, k => by
    cases q with
    | cons q1 q2 =>
      unfold takesT at h
      split at h
      · rename_i x ae1 h1
        split at h
        · rename_i xs ae2 h2
          cases h
          exact take_K g (ar := a.bare) (by rw [bare_takeT]; exact h1) (q1.bare (env' := env)) fun t e h3 g1 s1 => takes_K g1 h2 q2 fun us e2 h4 g2 s2 => k _ _ (.cons h3 h4) g2 (s1.trans s2)
        · cases h
      · cases h
end
end A
end PyI

namespace PyI
open PySem
namespace A
/-! ### operators that only read -/
def intOf : Ty → Option (Int × Int)
  | .int lo hi => some (lo, hi)
  | .or a b => match intOf a, intOf b with
    | some (l, h), some (l', h') => some (min l l', max h h')
    | _, _ => none
  | _ => none
theorem intOf_ok : ∀ {t : Ty} {lo hi : Int} {d : D}, intOf t = some (lo, hi) → has t d → ∃ i, d = .int i ∧ lo ≤ i ∧ i ≤ hi := by
  intro t
  induction t with
  | int a b => intro lo hi d h q; cases h; exact q
  | or a b iha ihb =>
    intro lo hi d h q
    unfold intOf at h
    split at h
    · rename_i l h l' h' h1 h2
      cases h
      rcases q with q | q
      · obtain ⟨i, e, q1, q2⟩ := iha h1 q; exact ⟨i, e, by omega, by omega⟩
      · obtain ⟨i, e, q1, q2⟩ := ihb h2 q; exact ⟨i, e, by omega, by omega⟩
    · cases h
  | _ => intro lo hi d h; cases h
def seqOfT : Ty → Option (Bool × Ty × Nat × Nat)
  | .seq k t lo hi => some (k, t, lo, hi)
  | .tup k ts => some (k, foldJ (join fl) ts .nil, lenT ts, lenT ts)
  | .or a b => match seqOfT a, seqOfT b with
    | some (k, t, lo, hi), some (k', t', lo', hi') => if k = k' then some (k, join fl t t', min lo lo', max hi hi') else none
    | _, _ => none
  | _ => none
theorem seqOfT_ok : ∀ {s : Ty} {k : Bool} {t : Ty} {lo hi : Nat} {d : D}, seqOfT s = some (k, t, lo, hi) → has s d → ∃ xs, d = sq k xs ∧ lo ≤ xs.length ∧ xs.length ≤ hi ∧ ∀ x ∈ xs, has t x := by
  intro s
  induction s with
  | seq k t lo hi => intro k' t' lo' hi' d h q; cases h; exact q
  | tup k ts _ =>
    intro k' t' lo' hi' d h q; cases h
    obtain ⟨xs, rfl, q⟩ := q
    exact ⟨xs, rfl, Nat.le_of_eq (hasL_len q).symm, Nat.le_of_eq (hasL_len q), (foldJ_ok (join_ok fl)).2 xs q⟩
  | or a b iha ihb =>
    intro k t lo hi d h q
    unfold seqOfT at h
    split at h
    · rename_i k1 t1 lo1 hi1 k2 t2 lo2 hi2 h1 h2
      split at h
      · rename_i c; subst c
        cases h
        rcases q with q | q
        · obtain ⟨xs, e, q1, q2, q3⟩ := iha h1 q; exact ⟨xs, e, by omega, by omega, fun x hx => join_ok _ _ _ _ (.inl (q3 x hx))⟩
        · obtain ⟨xs, e, q1, q2, q3⟩ := ihb h2 q; exact ⟨xs, e, by omega, by omega, fun x hx => join_ok _ _ _ _ (.inr (q3 x hx))⟩
      · cases h
    · cases h
  | _ => intro k t lo hi d h; cases h
def shp (t : Ty) : Bool := match bnd t with
  | some (n, _) => decide (n ≤ 64)
  | none => false
theorem shp_ok {t : Ty} {d : D} (h : shp t = true) (q : has t d) : SeqAt.shaped d = true := by
  unfold shp at h
  split at h
  · rename_i n m h1
    exact (bnd_ok t h1 q).shaped (of_decide_eq_true h)
  · cases h
def flatT : Ty → Bool
  | .none => true
  | .bool => true
  | .int _ _ => true
  | .str _ => true
  | .txt => true
  | .nil => true
  | .or a b => flatT a && flatT b
  | _ => false
theorem flatT_ok : ∀ {t : Ty} {d : D}, flatT t = true → has t d → flatD d = true := by
  intro t
  induction t with
  | or a b iha ihb => intro d h q; have h := Bool.and_eq_true_iff.mp h; exact q.elim (iha h.1) (ihb h.2)
  | none => intro d _ q; cases q; rfl
  | bool => intro d _ q; obtain ⟨b, rfl⟩ := q; rfl
  | int _ _ => intro d _ q; obtain ⟨i, rfl, _⟩ := q; rfl
  | str _ => intro d _ q; cases q; rfl
  | txt => intro d _ q; obtain ⟨i, rfl, _⟩ := q; rfl
  | nil => intro d _ q; exact q.elim
  | _ => intro d h; cases h
def lnTg : Tg → Tg
  | .sq j => .ln j
  | _ => .no
def inI (t : Ty) (f : Int → Int → Option Ty) : Option Ty := match intOf t with
  | some (lo, hi) => f lo hi
  | none => none
def sm64 (lo hi : Int) : Bool := decide (-(2 ^ 64) < lo) && decide (hi < 2 ^ 64)
def isBoolT : Ty → Bool
  | .bool => true
  | .nil => true
  | _ => false
theorem isBoolT_ok {t : Ty} {d : D} (h : isBoolT t = true) (q : has t d) : ∃ b, d = .bool b := by
  cases t <;> first | cases h | skip
  · exact q
  · exact q.elim
def flA : Op → List (Ty × Tg) → Option (Ty × Tg)
  | .sub, [a, b] => (inI a.1 fun l h => inI b.1 fun l' h' => some (.int (l - h') (h - l'))).map fun t => (t, .no)
  | .mul, [a, b] => (inI a.1 fun l h => inI b.1 fun l' h' => if (sm64 l h || sm64 l' h') = true then some (.int (min (min (l * l') (l * h')) (min (h * l') (h * h'))) (max (max (l * l') (l * h')) (max (h * l') (h * h')))) else none).map fun t => (t, .no)
  | .fdiv, [a, b] => (inI a.1 fun l h => inI b.1 fun l' h' => if 0 < l' ∧ h' < 1073741824 then some (if l' = h' then .int (l / l') (h / l') else .int (min l 0) (max h 0)) else none).map fun t => (t, .no)
  | .mod, [a, b] => (inI a.1 fun _ _ => inI b.1 fun l' h' => if 0 < l' then some (.int 0 (h' - 1)) else none).map fun t => (t, .no)
  | .pow, [a, b] => (inI a.1 fun l h => inI b.1 fun l' h' => if l = h ∧ l' = h' ∧ 0 ≤ l' ∧ l' ≤ 1000 ∧ l.natAbs < 2 ^ 64 then some (.int (l ^ l'.toNat) (l ^ l'.toNat)) else none).map fun t => (t, .no)
  | .neg, [a] => (inI a.1 fun l h => some (.int (-h) (-l))).map fun t => (t, .no)
  | .eq, [a, b] => if (shp a.1 && shp b.1) = true then some (.bool, .no) else none
  | .ne, [a, b] => if (shp a.1 && shp b.1) = true then some (.bool, .no) else none
  | .lt, [a, b] => (inI a.1 fun _ _ => inI b.1 fun _ _ => some .bool).map fun t => (t, .no)
  | .le, [a, b] => (inI a.1 fun _ _ => inI b.1 fun _ _ => some .bool).map fun t => (t, .no)
  | .gt, [a, b] => (inI a.1 fun _ _ => inI b.1 fun _ _ => some .bool).map fun t => (t, .no)
  | .ge, [a, b] => (inI a.1 fun _ _ => inI b.1 fun _ _ => some .bool).map fun t => (t, .no)
  | .isN, [_] => some (.bool, .no)
  | .notN, [_] => some (.bool, .no)
  | .isI _, [_] => some (.bool, .no)
  | .len, [a] => match seqOfT a.1 with
    | some (_, _, lo, hi) => some (.int lo hi, lnTg a.2)
    | none => none
  | .abs, [a] => (inI a.1 fun l h => some (.int 0 (max h (-l)))).map fun t => (t, .no)
  | .int, [a] => if isBoolT a.1 = true then some (.int 0 1, .no) else (inI a.1 fun l h => some (.int l h)).map fun t => (t, .no)
  | .str, [a] => (inI a.1 fun l h => if -1000000000000 ≤ l ∧ h ≤ 1000000000000 then some .txt else none).map fun t => (t, .no)
  | .min, [a, b] => (inI a.1 fun l h => inI b.1 fun l' h' => some (.int (min l l') (min h h'))).map fun t => (t, .no)
  | .max, [a, b] => (inI a.1 fun l h => inI b.1 fun l' h' => some (.int (max l l') (max h h'))).map fun t => (t, .no)
  | .min, [a] => match seqOfT a.1 with
    | some (_, t, lo, _) => if 1 ≤ lo then (inI t fun l h => some (.int l h)).map fun t => (t, .no) else none
    | none => none
  | .max, [a] => match seqOfT a.1 with
    | some (_, t, lo, _) => if 1 ≤ lo then (inI t fun l h => some (.int l h)).map fun t => (t, .no) else none
    | none => none
  | .sum, [a] => match seqOfT a.1 with
    | some (_, t, _, hi) => if hi = 0 then some (.int 0 0, .no) else (inI t fun l h => some (.int (hi * min l 0) (hi * max h 0))).map fun t => (t, .no)
    | none => none
  | .any, [a] => match seqOfT a.1 with
    | some (true, t, _, _) => if isBoolT t = true then some (.bool, .no) else none
    | _ => none
  | .all, [a] => match seqOfT a.1 with
    | some (true, t, _, _) => if isBoolT t = true then some (.bool, .no) else none
    | _ => none
  | .isin, [a, b] => match seqOfT b.1 with
    | some (true, _, _, _) => if (shp a.1 && shp b.1) = true then some (.bool, .no) else none
    | some (false, t, _, _) => if (flatT a.1 && flatT t) = true then some (.bool, .no) else none
    | none => none
  | .notin, [a, b] => match seqOfT b.1 with
    | some (true, _, _, _) => if (shp a.1 && shp b.1) = true then some (.bool, .no) else none
    | some (false, t, _, _) => if (flatT a.1 && flatT t) = true then some (.bool, .no) else none
    | none => none
  | _, _ => none
theorem inI_ok {t u : Ty} {d : D} {f : Int → Int → Option Ty} (h : inI t f = some u) (q : has t d) : ∃ lo hi i, f lo hi = some u ∧ d = .int i ∧ lo ≤ i ∧ i ≤ hi := by
  unfold inI at h
  split at h
  · rename_i lo hi h1
    obtain ⟨i, e, q1, q2⟩ := intOf_ok h1 q
    exact ⟨lo, hi, i, h, e, q1, q2⟩
  · cases h
theorem no_map {o : Option Ty} {t : Ty} {g : Tg} (h : (o.map fun t => (t, Tg.no)) = some (t, g)) : o = some t ∧ g = .no := by
  cases o with
  | none => cases h
  | some u => cases h; exact ⟨rfl, rfl⟩
section
variable {env : Env}
theorem f1 {p : Ty × Tg} {ds : List D} (h : F2 (hasG env) [p] ds) : ∃ d, ds = [d] ∧ hasG env p d := by
  cases h with | cons a b => cases b; exact ⟨_, rfl, a⟩
theorem f2 {p r : Ty × Tg} {ds : List D} (h : F2 (hasG env) [p, r] ds) : ∃ d e, ds = [d, e] ∧ hasG env p d ∧ hasG env r e := by
  cases h with | cons a b => cases b with | cons b c => cases c; exact ⟨_, _, rfl, a, b⟩
theorem two_ints {a b : Ty × Tg} {f : Int → Int → Int → Int → Option Ty} {t : Ty} {g : Tg} {ds : List D} (h : ((inI a.1 fun l h => inI b.1 fun l' h' => f l h l' h').map fun t => (t, Tg.no)) = some (t, g)) (q : F2 (hasG env) [a, b] ds) :
    ∃ l h l' h' i j, f l h l' h' = some t ∧ g = .no ∧ ds = [.int i, .int j] ∧ l ≤ i ∧ i ≤ h ∧ l' ≤ j ∧ j ≤ h' := by
  obtain ⟨d, e, rfl, q1, q2⟩ := f2 q
  obtain ⟨h1, rfl⟩ := no_map h
  obtain ⟨l, h, i, h2, rfl, c1, c2⟩ := inI_ok h1 q1.1
  obtain ⟨l', h', j, h3, rfl, c3, c4⟩ := inI_ok h2 q2.1
  exact ⟨l, h, l', h', i, j, h3, rfl, rfl, c1, c2, c3, c4⟩
theorem mul_bnd {l h l' h' i j : Int} (c1 : l ≤ i) (c2 : i ≤ h) (c3 : l' ≤ j) (c4 : j ≤ h') : min (min (l * l') (l * h')) (min (h * l') (h * h')) ≤ i * j ∧ i * j ≤ max (max (l * l') (l * h')) (max (h * l') (h * h')) := by
  have side : ∀ a : Int, min (a * l') (a * h') ≤ a * j ∧ a * j ≤ max (a * l') (a * h') := fun a => by
    rcases Int.le_total 0 a with c | c
    · have := Int.mul_le_mul_of_nonneg_left c3 c
      have := Int.mul_le_mul_of_nonneg_left c4 c
      omega
    · have := Int.mul_le_mul_of_nonpos_left c c3
      have := Int.mul_le_mul_of_nonpos_left c c4
      omega
  have s1 := side l
  have s2 := side h
  rcases Int.le_total 0 j with c | c
  · have := Int.mul_le_mul_of_nonneg_right c1 c
    have := Int.mul_le_mul_of_nonneg_right c2 c
    omega
  · have := Int.mul_le_mul_of_nonpos_right c1 c
    have := Int.mul_le_mul_of_nonpos_right c2 c
    omega
theorem ints_of {t : Ty} {lo hi : Int} (h : intOf t = some (lo, hi)) : ∀ {xs : List D}, (∀ x ∈ xs, has t x) → ∃ ns : List Int, xs = ns.map .int ∧ ∀ n ∈ ns, lo ≤ n ∧ n ≤ hi
  | [], _ => ⟨[], rfl, fun _ h => nomatch h⟩
  | x :: r, q => by
    obtain ⟨i, rfl, h1, h2⟩ := intOf_ok h (q x List.mem_cons_self)
    obtain ⟨ns, rfl, h3⟩ := ints_of h (xs := r) fun y hy => q y (List.mem_cons_of_mem _ hy)
    exact ⟨i :: ns, rfl, fun n hn => by
      rcases List.mem_cons.mp hn with rfl | hn
      · exact ⟨h1, h2⟩
      · exact h3 n hn⟩
theorem bools_of {t : Ty} (h : isBoolT t = true) : ∀ {xs : List D}, (∀ x ∈ xs, has t x) → ∃ bs : List Bool, bools? xs = some bs
  | [], _ => ⟨[], rfl⟩
  | x :: r, q => by
    obtain ⟨b, rfl⟩ := isBoolT_ok h (q x List.mem_cons_self)
    obtain ⟨bs, h3⟩ := bools_of h (xs := r) fun y hy => q y (List.mem_cons_of_mem _ hy)
    exact ⟨b :: bs, by show (bools? r).map (b :: ·) = _; rw [h3]; rfl⟩
theorem sum_in {lo hi : Int} : ∀ {ns : List Int} {n : Nat}, (∀ x ∈ ns, lo ≤ x ∧ x ≤ hi) → ns.length ≤ n → n * min lo 0 ≤ ns.sum ∧ ns.sum ≤ n * max hi 0
  | [], n, _, _ => by
    have h1 : (n : Int) * min lo 0 ≤ 0 := Int.mul_nonpos_of_nonneg_of_nonpos (by omega) (by omega)
    have h2 : 0 ≤ (n : Int) * max hi 0 := Int.mul_nonneg (by omega) (by omega)
    exact ⟨h1, h2⟩
  | x :: r, 0, _, h => by simp at h
  | x :: r, n + 1, h, hl => by
    have h1 := h x List.mem_cons_self
    have h2 := sum_in (ns := r) (n := n) (fun y hy => h y (List.mem_cons_of_mem _ hy)) (by simpa using hl)
    rw [List.sum_cons]
    have e1 : ((n + 1 : Nat) : Int) * min lo 0 = n * min lo 0 + min lo 0 := by rw [Int.natCast_add, Int.add_mul]; simp
    have e2 : ((n + 1 : Nat) : Int) * max hi 0 = n * max hi 0 + max hi 0 := by rw [Int.natCast_add, Int.add_mul]; simp
    rw [e1, e2]
    omega
theorem minI_in {lo hi : Int} : ∀ {ns : List Int}, ns ≠ [] → (∀ x ∈ ns, lo ≤ x ∧ x ≤ hi) → ∃ m, minI ns = some m ∧ lo ≤ m ∧ m ≤ hi
  | [], h, _ => absurd rfl h
  | [x], _, h => ⟨x, rfl, h x List.mem_cons_self⟩
  | x :: y :: r, _, h => by
    obtain ⟨m, h1, h2⟩ := minI_in (ns := y :: r) (by simp) fun z hz => h z (List.mem_cons_of_mem _ hz)
    refine ⟨_, by show (minI (y :: r)).map _ = _; rw [h1]; rfl, ?_⟩
    have := h x List.mem_cons_self
    simp only
    split <;> omega
theorem maxI_in {lo hi : Int} : ∀ {ns : List Int}, ns ≠ [] → (∀ x ∈ ns, lo ≤ x ∧ x ≤ hi) → ∃ m, maxI ns = some m ∧ lo ≤ m ∧ m ≤ hi
  | [], h, _ => absurd rfl h
  | [x], _, h => ⟨x, rfl, h x List.mem_cons_self⟩
  | x :: y :: r, _, h => by
    obtain ⟨m, h1, h2⟩ := maxI_in (ns := y :: r) (by simp) fun z hz => h z (List.mem_cons_of_mem _ hz)
    refine ⟨_, by show (maxI (y :: r)).map _ = _; rw [h1]; rfl, ?_⟩
    have := h x List.mem_cons_self
    simp only
    split <;> omega
theorem txt_of {i : Int} (h : -1000000000000 ≤ i ∧ i ≤ 1000000000000) : has .txt (.str (toString i)) := by
  have p := Pl.dec h
  have h1 := p.bk
  have h2 := p.cl
  unfold PyData.bulk at h1
  unfold PyData.canLay0 at h2
  exact ⟨_, rfl, Nat.le_trans h1 (by decide), h2⟩
theorem inSem_sq {a : D} {b : Ty} {k : Bool} {t : Ty} {lo hi : Nat} {e : D} (hs : seqOfT b = some (k, t, lo, hi)) (qb : has b e) (h : if k = true then SeqAt.shaped a = true ∧ SeqAt.shaped e = true else flatD a = true ∧ flatT t = true) : ∃ r, inSem a e = some r := by
  obtain ⟨xs, rfl, q1, q2, q3⟩ := seqOfT_ok hs qb
  cases k with
  | true =>
    rw [if_pos rfl] at h
    refine ⟨xs.any fun z => PyData.eqv z a, ?_⟩
    unfold inSem sq
    simp only
    rw [if_pos]
    have h2 : SeqAt.shaped (.list xs) = true := h.2
    rw [h.1, h2]; rfl
  | false =>
    rw [if_neg Bool.false_ne_true] at h
    refine ⟨xs.any fun z => PyData.eqv z a, ?_⟩
    unfold inSem sq
    simp only
    rw [if_pos]
    rw [h.1, Bool.true_and, List.all_eq_true]
    exact fun x hx => flatT_ok h.2 (q3 x hx)
theorem isA_some (c : String) (d : D) : ∃ b, isA c d = some b := by cases d <;> exact ⟨_, rfl⟩
theorem fl_ok {o : Op} {ps : List (Ty × Tg)} {t : Ty} {g : Tg} {ds : List D} {K : D → Prop} (h : flA o ps = some (t, g)) (q : F2 (hasG env) ps ds) (k : ∀ d, hasG env (t, g) d → K d) : wpF o ds K := by
  unfold flA at h
  split at h
  · obtain ⟨l, h, l', h', i, j, e, rfl, rfl, c1, c2, c3, c4⟩ := two_ints (f := fun l h l' h' => some (.int (l - h') (h - l'))) h q
    cases e
    exact k _ ⟨⟨_, rfl, by omega, by omega⟩, trivial⟩
  · obtain ⟨l, h, l', h', i, j, e, rfl, rfl, c1, c2, c3, c4⟩ := two_ints (f := fun l h l' h' => if (sm64 l h || sm64 l' h') = true then some (.int (min (min (l * l') (l * h')) (min (h * l') (h * h'))) (max (max (l * l') (l * h')) (max (h * l') (h * h')))) else none) h q
    split at e
    · rename_i c
      cases e
      have b := mul_bnd c1 c2 c3 c4
      refine ⟨?_, k _ ⟨⟨_, rfl, b.1, b.2⟩, trivial⟩⟩
      unfold sm64 at c
      simp only [Bool.or_eq_true, Bool.and_eq_true, decide_eq_true_eq] at c
      unfold MulOk
      omega
    · cases e
  · obtain ⟨l, h, l', h', i, j, e, rfl, rfl, c1, c2, c3, c4⟩ := two_ints (f := fun l h l' h' => if 0 < l' ∧ h' < 1073741824 then some (if l' = h' then .int (l / l') (h / l') else .int (min l 0) (max h 0)) else none) h q
    split at e
    · rename_i c
      cases e
      refine ⟨by omega, k _ ⟨?_, trivial⟩⟩
      split
      · rename_i z
        have : j = l' := by omega
        subst this
        exact ⟨_, rfl, Int.ediv_le_ediv (by omega) c1, Int.ediv_le_ediv (by omega) c2⟩
      · refine ⟨_, rfl, ?_, ?_⟩
        · rcases Int.le_total 0 i with z | z
          · have := Int.ediv_nonneg z (show 0 ≤ j by omega); omega
          · have : i ≤ i / j := by
              rw [Int.le_ediv_iff_mul_le (by omega)]
              have := Int.mul_le_mul_of_nonpos_left z (show 1 ≤ j by omega)
              omega
            omega
        · rcases Int.le_total 0 i with z | z
          · have := Int.ediv_le_self j z; omega
          · have := Int.ediv_nonpos_of_nonpos_of_neg z (show 0 < j by omega)
            omega
    · cases e
  · obtain ⟨l, h, l', h', i, j, e, rfl, rfl, c1, c2, c3, c4⟩ := two_ints (f := fun _ _ l' h' => if 0 < l' then some (.int 0 (h' - 1)) else none) h q
    split at e
    · cases e
      refine ⟨by omega, k _ ⟨⟨_, rfl, Int.emod_nonneg _ (by omega), ?_⟩, trivial⟩⟩
      have := Int.emod_lt_of_pos i (show 0 < j by omega)
      omega
    · cases e
  · obtain ⟨l, h, l', h', i, j, e, rfl, rfl, c1, c2, c3, c4⟩ := two_ints (f := fun l h l' h' => if l = h ∧ l' = h' ∧ 0 ≤ l' ∧ l' ≤ 1000 ∧ l.natAbs < 2 ^ 64 then some (.int (l ^ l'.toNat) (l ^ l'.toNat)) else none) h q
    split at e
    · rename_i c
      cases e
      have e1 : i = l := by omega
      have e2 : j = l' := by omega
      subst e1 e2
      exact ⟨⟨by omega, by omega, c.2.2.2.2⟩, k _ ⟨⟨_, rfl, Int.le_refl _, Int.le_refl _⟩, trivial⟩⟩
    · cases e
  · obtain ⟨d, rfl, q1⟩ := f1 q
    obtain ⟨h1, rfl⟩ := no_map h
    obtain ⟨l, h, i, e, rfl, c1, c2⟩ := inI_ok h1 q1.1
    cases e
    exact k _ ⟨⟨_, rfl, by omega, by omega⟩, trivial⟩
  · obtain ⟨d, e, rfl, q1, q2⟩ := f2 q
    split at h
    · rename_i c
      cases h
      have c := Bool.and_eq_true_iff.mp c
      exact ⟨shp_ok c.1 q1.1, shp_ok c.2 q2.1, k _ ⟨⟨_, rfl⟩, trivial⟩⟩
    · cases h
  · obtain ⟨d, e, rfl, q1, q2⟩ := f2 q
    split at h
    · rename_i c
      cases h
      have c := Bool.and_eq_true_iff.mp c
      exact ⟨shp_ok c.1 q1.1, shp_ok c.2 q2.1, k _ ⟨⟨_, rfl⟩, trivial⟩⟩
    · cases h
  · obtain ⟨l, h, l', h', i, j, e, rfl, rfl, c1, c2, c3, c4⟩ := two_ints (f := fun _ _ _ _ => some .bool) h q
    cases e
    exact k _ ⟨⟨_, rfl⟩, trivial⟩
  · obtain ⟨l, h, l', h', i, j, e, rfl, rfl, c1, c2, c3, c4⟩ := two_ints (f := fun _ _ _ _ => some .bool) h q
    cases e
    exact k _ ⟨⟨_, rfl⟩, trivial⟩
  · obtain ⟨l, h, l', h', i, j, e, rfl, rfl, c1, c2, c3, c4⟩ := two_ints (f := fun _ _ _ _ => some .bool) h q
    cases e
    exact k _ ⟨⟨_, rfl⟩, trivial⟩
  · obtain ⟨l, h, l', h', i, j, e, rfl, rfl, c1, c2, c3, c4⟩ := two_ints (f := fun _ _ _ _ => some .bool) h q
    cases e
    exact k _ ⟨⟨_, rfl⟩, trivial⟩
  · obtain ⟨d, rfl, q1⟩ := f1 q
    cases h
    exact k _ ⟨⟨_, rfl⟩, trivial⟩
  · obtain ⟨d, rfl, q1⟩ := f1 q
    cases h
    exact k _ ⟨⟨_, rfl⟩, trivial⟩
  · obtain ⟨d, rfl, q1⟩ := f1 q
    cases h
    obtain ⟨b, hb⟩ := isA_some _ d
    exact ⟨b, hb, k _ ⟨⟨_, rfl⟩, trivial⟩⟩
  · rename_i a
    obtain ⟨d, rfl, q1⟩ := f1 q
    split at h
    · rename_i kk tt lo hi hs
      cases h
      obtain ⟨xs, rfl, c1, c2, c3⟩ := seqOfT_ok hs q1.1
      have tg : tgOk (lnTg a.2) (.int xs.length) env := by
        have := q1.2
        cases e : a.2 with
        | sq j =>
          rw [e] at this
          obtain ⟨m, h1, h2⟩ := this
          refine ⟨m, ?_, h2⟩
          cases kk <;> (cases h1; rfl)
        | _ => exact trivial
      cases kk with
      | true => exact ⟨k _ ⟨⟨_, rfl, by omega, by omega⟩, tg⟩⟩
      | false => exact ⟨k _ ⟨⟨_, rfl, by omega, by omega⟩, tg⟩⟩
    · cases h
  · obtain ⟨d, rfl, q1⟩ := f1 q
    obtain ⟨h1, rfl⟩ := no_map h
    obtain ⟨l, h, i, e, rfl, c1, c2⟩ := inI_ok h1 q1.1
    cases e
    refine k _ ⟨⟨_, rfl, ?_, ?_⟩, trivial⟩ <;> (split <;> omega)
  · obtain ⟨d, rfl, q1⟩ := f1 q
    split at h
    · rename_i c
      cases h
      obtain ⟨b, rfl⟩ := isBoolT_ok c q1.1
      refine k _ ⟨⟨_, rfl, ?_, ?_⟩, trivial⟩ <;> (split <;> omega)
    · obtain ⟨h1, rfl⟩ := no_map h
      obtain ⟨l, h, i, e, rfl, c1, c2⟩ := inI_ok h1 q1.1
      cases e
      exact k _ ⟨⟨_, rfl, by omega, by omega⟩, trivial⟩
  · obtain ⟨d, rfl, q1⟩ := f1 q
    obtain ⟨h1, rfl⟩ := no_map h
    obtain ⟨l, h, i, e, rfl, c1, c2⟩ := inI_ok h1 q1.1
    split at e
    · rename_i c
      cases e
      exact ⟨log2_small (by omega), k _ ⟨txt_of (by omega), trivial⟩⟩
    · cases e
  · obtain ⟨l, h, l', h', i, j, e, rfl, rfl, c1, c2, c3, c4⟩ := two_ints (f := fun l h l' h' => some (.int (min l l') (min h h'))) h q
    cases e
    refine k _ ⟨⟨_, rfl, ?_, ?_⟩, trivial⟩ <;> (split <;> omega)
  · obtain ⟨l, h, l', h', i, j, e, rfl, rfl, c1, c2, c3, c4⟩ := two_ints (f := fun l h l' h' => some (.int (max l l') (max h h'))) h q
    cases e
    refine k _ ⟨⟨_, rfl, ?_, ?_⟩, trivial⟩ <;> (split <;> omega)
  · obtain ⟨d, rfl, q1⟩ := f1 q
    split at h
    · rename_i kk tt lo hi hs
      split at h
      · rename_i c
        obtain ⟨h1, rfl⟩ := no_map h
        unfold inI at h1
        split at h1
        · rename_i l u hi2
          cases h1
          obtain ⟨xs, rfl, c1, c2, c3⟩ := seqOfT_ok hs q1.1
          obtain ⟨ns, rfl, c4⟩ := ints_of hi2 c3
          obtain ⟨m, c5, c6, c7⟩ := minI_in (ns := ns) (fun z => by subst z; simp at c1; omega) c4
          cases kk with
          | true => exact ⟨ns, m, ints_map2 ns, c5, k _ ⟨⟨_, rfl, c6, c7⟩, trivial⟩⟩
          | false => exact ⟨ns, m, ints_map2 ns, c5, k _ ⟨⟨_, rfl, c6, c7⟩, trivial⟩⟩
        · cases h1
      · cases h
    · cases h
  · obtain ⟨d, rfl, q1⟩ := f1 q
    split at h
    · rename_i kk tt lo hi hs
      split at h
      · rename_i c
        obtain ⟨h1, rfl⟩ := no_map h
        unfold inI at h1
        split at h1
        · rename_i l u hi2
          cases h1
          obtain ⟨xs, rfl, c1, c2, c3⟩ := seqOfT_ok hs q1.1
          obtain ⟨ns, rfl, c4⟩ := ints_of hi2 c3
          obtain ⟨m, c5, c6, c7⟩ := maxI_in (ns := ns) (fun z => by subst z; simp at c1; omega) c4
          cases kk with
          | true => exact ⟨ns, m, ints_map2 ns, c5, k _ ⟨⟨_, rfl, c6, c7⟩, trivial⟩⟩
          | false => exact ⟨ns, m, ints_map2 ns, c5, k _ ⟨⟨_, rfl, c6, c7⟩, trivial⟩⟩
        · cases h1
      · cases h
    · cases h
  · obtain ⟨d, rfl, q1⟩ := f1 q
    split at h
    · rename_i kk tt lo hi hs
      obtain ⟨xs, rfl, c1, c2, c3⟩ := seqOfT_ok hs q1.1
      split at h
      · rename_i c
        cases h
        have : xs = [] := by cases xs <;> simp at c2 ⊢; omega
        subst this
        cases kk with
        | true => exact ⟨[], rfl, k _ ⟨⟨_, rfl, by decide, by decide⟩, trivial⟩⟩
        | false => exact ⟨[], rfl, k _ ⟨⟨_, rfl, by decide, by decide⟩, trivial⟩⟩
      · obtain ⟨h1, rfl⟩ := no_map h
        unfold inI at h1
        split at h1
        · rename_i l u hi2
          cases h1
          obtain ⟨ns, rfl, c4⟩ := ints_of hi2 c3
          have b := sum_in c4 (by simpa using c2)
          cases kk with
          | true => exact ⟨ns, ints_map2 ns, k _ ⟨⟨_, rfl, b.1, b.2⟩, trivial⟩⟩
          | false => exact ⟨ns, ints_map2 ns, k _ ⟨⟨_, rfl, b.1, b.2⟩, trivial⟩⟩
        · cases h1
    · cases h
  · obtain ⟨d, rfl, q1⟩ := f1 q
    split at h
    · rename_i tt lo hi hs
      split at h
      · rename_i c
        cases h
        obtain ⟨xs, rfl, c1, c2, c3⟩ := seqOfT_ok hs q1.1
        obtain ⟨bs, hb⟩ := bools_of c c3
        exact ⟨bs, hb, k _ ⟨⟨_, rfl⟩, trivial⟩⟩
      · cases h
    · cases h
  · obtain ⟨d, rfl, q1⟩ := f1 q
    split at h
    · rename_i tt lo hi hs
      split at h
      · rename_i c
        cases h
        obtain ⟨xs, rfl, c1, c2, c3⟩ := seqOfT_ok hs q1.1
        obtain ⟨bs, hb⟩ := bools_of c c3
        exact ⟨bs, hb, k _ ⟨⟨_, rfl⟩, trivial⟩⟩
      · cases h
    · cases h
  · obtain ⟨d, e, rfl, q1, q2⟩ := f2 q
    split at h
    · rename_i tt lo hi hs
      split at h
      · rename_i c
        cases h
        have c := Bool.and_eq_true_iff.mp c
        obtain ⟨r, hr⟩ := inSem_sq (a := d) hs q2.1 (by rw [if_pos rfl]; exact ⟨shp_ok c.1 q1.1, shp_ok c.2 q2.1⟩)
        exact ⟨r, hr, k _ ⟨⟨_, rfl⟩, trivial⟩⟩
      · cases h
    · rename_i tt lo hi hs
      split at h
      · rename_i c
        cases h
        have c := Bool.and_eq_true_iff.mp c
        obtain ⟨r, hr⟩ := inSem_sq (a := d) hs q2.1 (by rw [if_neg Bool.false_ne_true]; exact ⟨flatT_ok c.1 q1.1, c.2⟩)
        exact ⟨r, hr, k _ ⟨⟨_, rfl⟩, trivial⟩⟩
      · cases h
    · cases h
  · obtain ⟨d, e, rfl, q1, q2⟩ := f2 q
    split at h
    · rename_i tt lo hi hs
      split at h
      · rename_i c
        cases h
        have c := Bool.and_eq_true_iff.mp c
        obtain ⟨r, hr⟩ := inSem_sq (a := d) hs q2.1 (by rw [if_pos rfl]; exact ⟨shp_ok c.1 q1.1, shp_ok c.2 q2.1⟩)
        exact ⟨r, hr, k _ ⟨⟨_, rfl⟩, trivial⟩⟩
      · cases h
    · rename_i tt lo hi hs
      split at h
      · rename_i c
        cases h
        have c := Bool.and_eq_true_iff.mp c
        obtain ⟨r, hr⟩ := inSem_sq (a := d) hs q2.1 (by rw [if_neg Bool.false_ne_true]; exact ⟨flatT_ok c.1 q1.1, c.2⟩)
        exact ⟨r, hr, k _ ⟨⟨_, rfl⟩, trivial⟩⟩
      · cases h
    · cases h
  · cases h
end
end A
end PyI

namespace PyI
open PySem
namespace A
/-! ### operators whose answer holds items -/
def bigL : Nat := 16777216
def appT : Ty → Ty → Ty
  | .cons a r, t => .cons a (appT r t)
  | _, t => t
theorem appT_ok : ∀ {s t : Ty} {xs ys : List D}, hasL s xs → hasL t ys → hasL (appT s t) (xs ++ ys) := by
  intro s
  induction s with
  | cons a r _ ih => intro t xs ys h q; obtain ⟨x, zs, rfl, h1, h2⟩ := h; exact ⟨x, zs ++ ys, rfl, h1, ih h2 q⟩
  | nil => intro t xs ys h q; cases h; exact q
  | _ => intro t xs ys h; exact h.elim
def addS (a b : Ty) : Option AV := match seqOfT a, seqOfT b with
  | some (k, t, lo, hi), some (k', t', lo', hi') => if k = k' ∧ hi + hi' ≤ bigL then some (match k with
    | true => .l (.d (join fl t t')) (lo + lo') (hi + hi')
    | false => .d (.seq false (join fl t t') (lo + lo') (hi + hi'))) else none
  | _, _ => none
def addT (a b : Ty) : Option AV := match a, b with
  | .tup false ts, .tup false us => if lenT ts + lenT us ≤ bigL then some (.d (.tup false (appT ts us))) else none
  | a, b => match intOf a, intOf b with
    | some (l, h), some (l', h') => some (.d (.int (l + l') (h + h')))
    | _, _ => addS a b
section
variable {O : Opq}
theorem l_of {t : Ty} {lo hi : Nat} {xs : List D} (h1 : lo ≤ xs.length) (h2 : xs.length ≤ hi) (h : ∀ x ∈ xs, has t x) : γ O (.l (.d t) lo hi) (.nod none (xs.map .leaf)) :=
  ⟨_, rfl, by rw [List.length_map]; exact h1, by rw [List.length_map]; exact h2, fun y hy => by
    obtain ⟨x, hx, rfl⟩ := List.mem_map.mp hy
    exact ⟨x, rfl, h x hx⟩⟩
theorem addS_ok {a b : Ty} {v : AV} {x y : D} {K : OT → Prop} (h : addS a b = some v) (q1 : has a x) (q2 : has b y) (k : ∀ t, γ O v t → K t) : addK x y K := by
  unfold addS at h
  split at h
  · rename_i k1 t lo hi k2 t' lo' hi' h1 h2
    split at h
    · rename_i c
      obtain ⟨c1, c2⟩ := c
      subst c1
      cases h
      obtain ⟨xs, rfl, a1, a2, a3⟩ := seqOfT_ok h1 q1
      obtain ⟨ys, rfl, b1, b2, b3⟩ := seqOfT_ok h2 q2
      have hm : ∀ z ∈ xs ++ ys, has (join fl t t') z := fun z hz => by
        rcases List.mem_append.mp hz with hz | hz
        · exact join_ok _ _ _ _ (.inl (a3 z hz))
        · exact join_ok _ _ _ _ (.inr (b3 z hz))
      have e1 : lo + lo' ≤ (xs ++ ys).length := by rw [List.length_append]; omega
      have e2 : (xs ++ ys).length ≤ hi + hi' := by rw [List.length_append]; omega
      cases k1 with
      | true => exact ⟨by rw [sizeLine_eq]; unfold bigL at c2; omega, k _ (l_of e1 e2 hm)⟩
      | false => exact ⟨by rw [sizeLine_eq]; unfold bigL at c2; omega, k _ ⟨_, rfl, _, rfl, e1, e2, hm⟩⟩
    · cases h
  · cases h
theorem addT_ok {a b : Ty} {v : AV} {x y : D} {K : OT → Prop} (h : addT a b = some v) (q1 : has a x) (q2 : has b y) (k : ∀ t, γ O v t → K t) : addK x y K := by
  unfold addT at h
  split at h
  · split at h
    · rename_i c
      cases h
      obtain ⟨xs, rfl, a1⟩ := q1
      obtain ⟨ys, rfl, b1⟩ := q2
      have := hasL_len a1
      have := hasL_len b1
      exact ⟨by rw [sizeLine_eq]; unfold bigL at c; omega, k _ ⟨_, rfl, _, rfl, appT_ok a1 b1⟩⟩
    · cases h
  · split at h
    · rename_i l1 h1 l2 h2 e1 e2
      cases h
      obtain ⟨i, rfl, c1, c2⟩ := intOf_ok e1 q1
      obtain ⟨j, rfl, c3, c4⟩ := intOf_ok e2 q2
      exact k _ ⟨_, rfl, _, rfl, by omega, by omega⟩
    · exact addS_ok h q1 q2 k
/-- several, as data -/
def datsT : List AV → Option Ty
  | [] => some .nil
  | a :: as => match a.dat, datsT as with
    | some t, some ts => some (.cons t ts)
    | _, _ => none
theorem datsT_ok : ∀ {as : List AV} {ts : OT → Prop} {t : Ty} {xs : List OT}, datsT as = some t → F2 (γ O) as xs → hasL t (OT.dats xs)
  | [], _, _, _, h, q => by cases q; cases h; rfl
  | a :: as, u, _, _, h, q => by
    cases q with
    | cons q1 q2 =>
      unfold datsT at h
      split at h
      · rename_i h1 h2
        cases h
        exact ⟨_, _, rfl, AV.dat_ok h1 q1, datsT_ok (ts := u) h2 q2⟩
      · cases h
theorem dtsK_of : ∀ {ts : List OT} {K : List D → Prop}, K (OT.dats ts) → dtsK ts K
  | [], K, h => h
  | t :: ts, K, h => dtK_of (dtsK_of (ts := ts) h)
/-- one kind for several -/
def joinA : List AV → Option AV
  | [] => some (.d .nil)
  | a :: as => match joinA as with
    | some b => AV.join a b
    | none => none
theorem joinA_ok : ∀ {as : List AV} {b : AV} {xs : List OT}, joinA as = some b → F2 (γ O) as xs → ∀ x ∈ xs, γ O b x
  | [], _, _, h, q => by cases q; intro x hx; cases hx
  | a :: as, b, _, h, q => by
    cases q with
    | cons q1 q2 =>
      unfold joinA at h
      split at h
      · rename_i c h1
        intro x hx
        rcases List.mem_cons.mp hx with rfl | hx
        · exact AV.join_ok h (.inl q1)
        · exact AV.join_ok h (.inr (joinA_ok h1 q2 x hx))
      · cases h
def sqTg : Tg → Tg
  | .sq j => .sq j
  | _ => .no
theorem sqTg_ok {g : Tg} {d e : D} {env : Env} (h : tgOk g d env) (q : lenD d = lenD e) : tgOk (sqTg g) e env := by
  cases g with
  | sq j => obtain ⟨m, h1, h2⟩ := h; exact ⟨m, by rw [← q]; exact h1, h2⟩
  | _ => exact trivial
def tupleT : Ty → Option Ty
  | .tup _ ts => some (.tup false ts)
  | t => (seqOfT t).map fun p => .seq false p.2.1 p.2.2.1 p.2.2.2
theorem tupleT_ok {t u : Ty} {d : D} (h : tupleT t = some u) (q : has t d) : ∃ k xs, d = sq k xs ∧ has u (.tuple xs) := by
  unfold tupleT at h
  split at h
  · cases h
    obtain ⟨xs, rfl, q⟩ := q
    exact ⟨_, xs, rfl, xs, rfl, q⟩
  · obtain ⟨⟨k, t', lo, hi⟩, h1, h2⟩ := Option.map_eq_some_iff.mp h
    cases h2
    obtain ⟨xs, rfl, q1, q2, q3⟩ := seqOfT_ok h1 q
    exact ⟨k, xs, rfl, xs, rfl, q1, q2, q3⟩
/-- ints, or pairs of ints -/
def srtT : Ty → Bool
  | .tup false (.cons a (.cons b .nil)) => (intOf a).isSome && (intOf b).isSome
  | t => (intOf t).isSome || decide (t = .nil)
theorem pairs_of {a b : Ty} (ha : (intOf a).isSome = true) (hb : (intOf b).isSome = true) : ∀ {xs : List D}, (∀ x ∈ xs, has (.tup false (.cons a (.cons b .nil))) x) → ∃ ps : List (Int × Int), xs = ps.map prD
  | [], _ => ⟨[], rfl⟩
  | x :: r, q => by
    obtain ⟨ps, rfl⟩ := pairs_of ha hb (xs := r) fun y hy => q y (List.mem_cons_of_mem _ hy)
    obtain ⟨ys, rfl, u, us, rfl, h1, w, ws, rfl, h2, h3⟩ := q x List.mem_cons_self
    cases h3
    obtain ⟨⟨l, h⟩, e1⟩ := Option.isSome_iff_exists.mp ha
    obtain ⟨⟨l', h'⟩, e2⟩ := Option.isSome_iff_exists.mp hb
    obtain ⟨i, rfl, _⟩ := intOf_ok e1 h1
    obtain ⟨j, rfl, _⟩ := intOf_ok e2 h2
    exact ⟨(i, j) :: ps, rfl⟩
theorem srt_ok {t : Ty} {xs : List D} (h : srtT t = true) (q : ∀ x ∈ xs, has t x) : ∃ ds, sortD xs = some ds ∧ ds.length = xs.length ∧ ∀ d ∈ ds, has t d := by
  have iis : ∀ ns : List Int, xs = ns.map .int → ∃ ds, sortD xs = some ds ∧ ds.length = xs.length ∧ ∀ d ∈ ds, has t d := fun ns e => by
    subst e
    refine ⟨(sortI ns).map .int, by unfold sortD; rw [ints_map2], by rw [List.length_map, List.length_map, (sortI_perm ns).length_eq], fun d hd => ?_⟩
    obtain ⟨n, hn, rfl⟩ := List.mem_map.mp hd
    exact q _ (List.mem_map_of_mem ((sortI_perm ns).mem_iff.mp hn))
  have gen : ((intOf t).isSome || decide (t = .nil)) = true → ∃ ds, sortD xs = some ds ∧ ds.length = xs.length ∧ ∀ d ∈ ds, has t d := fun h => by
    rcases Bool.or_eq_true_iff.mp h with h | h
    · obtain ⟨⟨l, h⟩, e1⟩ := Option.isSome_iff_exists.mp h
      obtain ⟨ns, e, _⟩ := ints_of e1 q
      exact iis ns e
    · have := of_decide_eq_true h
      subst this
      cases xs with
      | nil => exact iis [] rfl
      | cons x r => exact (q x List.mem_cons_self).elim
  unfold srtT at h
  split at h
  · have h := Bool.and_eq_true_iff.mp h
    obtain ⟨ps, e⟩ := pairs_of h.1 h.2 q
    cases ps with
    | nil => exact iis [] e
    | cons p r =>
      subst e
      refine ⟨(sortP (p :: r)).map prD, ?_, by rw [List.length_map, List.length_map, (sortP_perm _).length_eq], fun d hd => ?_⟩
      · unfold sortD
        rw [show ints? ((p :: r).map prD) = none from rfl]
        simp only
        rw [pairs_map2]
      · obtain ⟨n, hn, rfl⟩ := List.mem_map.mp hd
        exact q _ (List.mem_map_of_mem ((sortP_perm _).mem_iff.mp hn))
  · exact gen h
/-! ### items -/
theorem ixN_in {n : Nat} {i : Int} (h1 : -(n : Int) ≤ i) (h2 : i < n) : ∃ k, L2.ixN n i = some k ∧ k < n ∧ (0 ≤ i → (k : Int) = i) ∧ (i < 0 → (k : Int) = n + i) := by
  unfold L2.ixN
  by_cases c : 0 ≤ i
  · rw [if_pos c, if_pos (by omega)]
    exact ⟨_, rfl, by omega, fun _ => by omega, fun _ => by omega⟩
  · rw [if_neg c, if_pos (by omega)]
    exact ⟨_, rfl, by omega, fun _ => by omega, fun _ => by omega⟩
def nthT : Ty → Nat → Option Ty
  | .cons a _, 0 => some a
  | .cons _ r, n + 1 => nthT r n
  | _, _ => none
theorem nthT_ok : ∀ {ts : Ty} {n : Nat} {a : Ty} {xs : List D} {x : D}, nthT ts n = some a → hasL ts xs → xs[n]? = some x → has a x := by
  intro ts
  induction ts with
  | cons b r _ ih =>
    intro n a xs x h q e
    obtain ⟨y, ys, rfl, q1, q2⟩ := q
    cases n with
    | zero => cases h; cases e; exact q1
    | succ n => exact ih h q2 (by simpa using e)
  | _ => intro n a xs x h; cases h
/-- within the bounds -/
def inR (lo hi : Int) (n : Nat) (g h : Tg) : Bool := (decide (-(n : Int) ≤ lo) && decide (hi < (n : Int))) || (match g, h with
  | .lt j, .sq j' => j == j'
  | _, _ => false)
theorem inR_ok {lo hi : Int} {n : Nat} {g h : Tg} {i : Int} {d : D} {len : Nat} {env : Env} (r : inR lo hi n g h = true) (h1 : lo ≤ i) (h2 : i ≤ hi) (hn : n ≤ len) (q1 : tgOk g (.int i) env) (q2 : tgOk h d env) (q3 : lenD d = some len) : -(len : Int) ≤ i ∧ i < len := by
  unfold inR at r
  rcases Bool.or_eq_true_iff.mp r with r | r
  · simp only [Bool.and_eq_true, decide_eq_true_eq] at r
    omega
  · split at r
    · rename_i j j' _
      have e : j = j' := by simpa using r
      subst e
      obtain ⟨a, b, e, q4, q5⟩ := q1
      obtain ⟨m, q6, q7⟩ := q2
      rw [q3] at q6
      cases q6
      rw [q4] at q7
      cases q7
      cases e
      omega
    · cases r
def constIx (T : Ty) (lo hi : Int) : Option Ty := match T with
  | .tup _ ts => if lo = hi then (if 0 ≤ lo then nthT ts lo.toNat else if -(lenT ts : Int) ≤ lo then nthT ts (lenT ts + lo).toNat else none) else none
  | _ => none
def itemT (T : Ty) (g : Tg) (ti : Ty) (tg : Tg) : Option Ty := match intOf ti with
  | some (lo, hi) => (match constIx T lo hi with
    | some t => some t
    | none => match seqOfT T with
      | some (_, t, l, _) => if inR lo hi l tg g = true then some t else none
      | none => none)
  | none => none
theorem item_ok {T ti t : Ty} {g tg : Tg} {d y : D} {env : Env} (h : itemT T g ti tg = some t) (q1 : hasG env (T, g) d) (q2 : hasG env (ti, tg) y) : ∃ kk xs i k x, d = sq kk xs ∧ y = .int i ∧ L2.ixN xs.length i = some k ∧ xs[k]? = some x ∧ has t x := by
  unfold itemT at h
  split at h
  · rename_i lo hi hi'
    obtain ⟨i, rfl, c1, c2⟩ := intOf_ok hi' q2.1
    split at h
    · rename_i u hu
      cases h
      unfold constIx at hu
      split at hu
      · rename_i kk ts
        obtain ⟨xs, e, hx⟩ := q1.1
        have hl := hasL_len hx
        split at hu
        · rename_i c
          have : i = lo := by omega
          subst this
          have go : ∀ n : Nat, nthT ts n = some t → n < xs.length → ∃ x, xs[n]? = some x ∧ has t x := fun n h1 h2 => ⟨_, List.getElem?_eq_getElem h2, nthT_ok h1 hx (List.getElem?_eq_getElem h2)⟩
          have nl : ∀ {ts : Ty} {n : Nat} {a : Ty}, nthT ts n = some a → n < lenT ts := by
            intro ts
            induction ts with
            | cons b r _ ih =>
              intro n a h
              cases n with
              | zero => exact Nat.zero_lt_succ _
              | succ n => exact Nat.succ_lt_succ (ih h)
            | _ => intro n a h; cases h
          split at hu
          · rename_i c0
            have h1 := nl hu
            obtain ⟨k, k1, k2, k3, _⟩ := ixN_in (n := xs.length) (i := i) (by omega) (by omega)
            have : k = i.toNat := by have := k3 c0; omega
            subst this
            obtain ⟨x, g1, g2⟩ := go _ hu k2
            exact ⟨kk, xs, i, _, x, e, rfl, k1, g1, g2⟩
          · split at hu
            · rename_i c0 c3
              obtain ⟨k, k1, k2, _, k4⟩ := ixN_in (n := xs.length) (i := i) (by omega) (by omega)
              have : k = (lenT ts + i).toNat := by have := k4 (by omega); omega
              subst this
              obtain ⟨x, g1, g2⟩ := go _ hu k2
              exact ⟨kk, xs, i, _, x, e, rfl, k1, g1, g2⟩
            · cases hu
        · cases hu
      · cases hu
    · split at h
      · rename_i kk u l m hs
        split at h
        · rename_i c
          cases h
          obtain ⟨xs, e, a1, a2, a3⟩ := seqOfT_ok hs q1.1
          have b := inR_ok (len := xs.length) (d := d) c c1 c2 a1 q2.2 q1.2 (by rw [e]; cases kk <;> rfl)
          obtain ⟨k, k1, k2, _⟩ := ixN_in b.1 b.2
          exact ⟨kk, xs, i, k, _, e, rfl, k1, List.getElem?_eq_getElem k2, a3 _ (List.getElem_mem k2)⟩
        · cases h
      · cases h
  · cases h
theorem ix_K {r : R} {t : OT} {env : Env} {Q : R → Env → Prop} {xs : List D} {i : Int} {k : Nat} {x : D} (h : r.tree env = some t) (ht : (∃ kk, t = .leaf (sq kk xs)) ∨ t = .nod none (xs.map .leaf)) (h1 : L2.ixN xs.length i = some k) (h2 : xs[k]? = some x) (q : Q (.own (.leaf x)) env) : ixK r (.int i) env Q := by
  have lf : ∀ kk, ixLK (sq kk xs) (.int i) fun x => Q (.own (.leaf x)) env := fun kk => by
    cases kk <;> exact ⟨k, x, h1, h2, q⟩
  have nd : ∀ {K : Nat → OT → Prop}, K k (.leaf x) → nodK none (xs.map .leaf) (.int i) K := fun hk => ⟨k, .leaf x, by rw [List.length_map]; exact h1, by rw [List.getElem?_map, h2]; rfl, hk⟩
  cases r with
  | own u =>
    cases h
    rcases ht with ⟨kk, rfl⟩ | rfl
    · exact lf kk
    · exact nd q
  | al v p =>
    obtain ⟨u, h3, h4⟩ := (⟨t, h, rfl⟩ : ∃ u, R.tree env (.al v p) = some u ∧ u = t)
    subst h4
    have : lookK env v p fun t => (match t with
      | .nod g ts => nodK g ts (.int i) fun k t => (match t with
        | .leaf d => Q (.own (.leaf d)) env
        | .nod _ _ => Q (.al v (p ++ [k])) env)
      | .leaf d => ixLK d (.int i) fun x => Q (.own (.leaf x)) env) := by
      refine treeK_of (r := .al v p) (t := u) h3 ?_
      rcases ht with ⟨kk, rfl⟩ | rfl
      · exact lf kk
      · exact nd q
    exact this
def ixA (a b : AR) (ae : AEnv) : Option (AR × AEnv) := match a.shT ae, b.dt ae with
  | some (T, g), some (ti, tg) => (itemT T g ti tg).map fun t => (.own (.d t) .no, ae)
  | _, _ => none
def oA (o : Op) (rs : List AR) (ae : AEnv) : Option (AR × AEnv) := if isFlat o = true then (match dTs rs ae with
    | some ps => (flA o ps).map fun p => (.own (.d p.1) p.2, ae)
    | none => none) else match o, rs with
  | .add, [a, b] => (match a.shT ae, b.shT ae with
    | some p, some q => (addT p.1 q.1).map fun v => (.own v .no, ae)
    | _, _ => none)
  | .tup, rs => (match takesT rs ae with
    | some (as, ae') => (datsT as).map fun t => (.own (.d (.tup false t)) .no, ae')
    | none => none)
  | .lst, rs => (match takesT rs ae with
    | some (as, ae') => (joinA as).map fun a => (.own (.l a as.length as.length) .no, ae')
    | none => none)
  | .nil, [] => some (.own (.l (.d .nil) 0 0) .no, ae)
  | .dic0, [] => some (.own (.d .dic) .no, ae)
  | .shr, [a] => (match a.takeT ae with
    | some (v, ae') => (v.dat).map fun t => (.own (.d t) .no, ae')
    | none => none)
  | .ix, [a, b] => ixA a b ae
  | .tuple, [a] => (match a.shT ae with
    | some p => (tupleT p.1).map fun t => (.own (.d t) (sqTg p.2), ae)
    | none => none)
  | .list, [a] => (match a.shT ae with
    | some p => (seqOfT p.1).map fun s => (.own (.l (.d s.2.1) s.2.2.1 s.2.2.2) (sqTg p.2), ae)
    | none => none)
  | .sorted, [a] => (match a.shT ae with
    | some p => (match seqOfT p.1 with
      | some (_, t, lo, hi) => if srtT t = true then some (.own (.l (.d t) lo hi) (sqTg p.2), ae) else none
      | none => none)
    | none => none)
  | .lrg, [a] => (match a.dt ae with
    | some p => (match intOf p.1 with
      | some (lo, hi) => if -4611686018427387904 ≤ lo ∧ hi ≤ 16777216 then some (.own (.l (.d (.int 0 (hi - 1))) lo.toNat hi.toNat) .no, ae) else none
      | none => none)
    | none => none)
  | .trg, [a] => (match a.dt ae with
    | some p => (match intOf p.1 with
      | some (lo, hi) => if -4611686018427387904 ≤ lo ∧ hi ≤ 16777216 then some (.own (.d (.seq false (.int 0 (hi - 1)) lo.toNat hi.toNat)) .no, ae) else none
      | none => none)
    | none => none)
  | .rev, [a] => (match a.shT ae with
    | some p => (match seqOfT p.1 with
      | some (true, t, lo, hi) => some (.own (.l (.d t) lo hi) (sqTg p.2), ae)
      | some (false, t, lo, hi) => some (.own (.d (.seq false t lo hi)) (sqTg p.2), ae)
      | none => none)
    | none => none)
  | _, _ => none
theorem rg_in {n lo hi : Int} (h1 : lo ≤ n) (h2 : n ≤ hi) : lo.toNat ≤ ((rgI n).map PyData.int).length ∧ ((rgI n).map PyData.int).length ≤ hi.toNat ∧ ∀ x ∈ (rgI n).map PyData.int, has (.int 0 (hi - 1)) x := by
  refine ⟨by unfold rgI; simp; omega, by unfold rgI; simp; omega, fun x hx => ?_⟩
  obtain ⟨i, hi', rfl⟩ := List.mem_map.mp hx
  unfold rgI at hi'
  obtain ⟨j, hj, rfl⟩ := List.mem_map.mp hi'
  have := List.mem_range.mp hj
  exact ⟨_, rfl, by omega, by omega⟩
theorem r1 {ae : List AR} {a : AR} {rs : List R} {env : Env} (h : F2 (fun a r => γR O a r env) [a] rs) : ∃ r, rs = [r] ∧ γR O a r env := by
  cases h with | cons a b => cases b; exact ⟨_, rfl, a⟩
theorem r2 {a b : AR} {rs : List R} {env : Env} (h : F2 (fun a r => γR O a r env) [a, b] rs) : ∃ r s, rs = [r, s] ∧ γR O a r env ∧ γR O b s env := by
  cases h with | cons a b => cases b with | cons b c => cases c; exact ⟨_, _, rfl, a, b⟩
theorem lenD_sq (k : Bool) (xs : List D) : lenD (sq k xs) = some xs.length := by cases k <;> rfl
theorem lenD_map (ds : List D) : lenD (OT.dat (.nod none (ds.map .leaf))) = some ds.length := by
  show some (OT.dats (ds.map .leaf)).length = _
  rw [dats_leafs]
theorem oA_ok {o : Op} {ars : List AR} {ae ae' : AEnv} {ar : AR} {rs : List R} {env : Env} {Q : R → Env → Prop} (h : oA o ars ae = some (ar, ae')) (g : G O ae env) (q : F2 (fun a r => γR O a r env) ars rs)
    (k : ∀ r e, γR O ar r e → G O ae' e → St [] env e → Q r e) : wpO o rs env Q := by
  unfold oA at h
  unfold wpO
  cases hf : isFlat o with
  | true =>
    rw [hf, if_pos rfl] at h
    simp only
    split at h
    · rename_i ps hp
      obtain ⟨p, h1, h2⟩ := Option.map_eq_some_iff.mp h
      cases h2
      exact dats_K g hp q fun ds hd => fl_ok (t := p.1) (g := p.2) h1 hd fun d hd => k _ _ ⟨_, rfl, ⟨d, rfl, hd.1⟩, hd.2⟩ g (St.refl _ _)
    · cases h
  | false =>
    rw [hf, if_neg Bool.false_ne_true] at h
    simp only
    split at h
    · obtain ⟨r, s, rfl, q1, q2⟩ := r2 q
      split at h
      · rename_i p p' h1 h2
        obtain ⟨v, h3, h4⟩ := Option.map_eq_some_iff.mp h
        cases h4
        exact sh_K g h1 q1 fun x hx => sh_K g h2 q2 fun y hy => addT_ok (O := O) h3 hx.1 hy.1 fun t ht => k _ _ ⟨t, rfl, ht, trivial⟩ g (St.refl _ _)
      · cases h
    · split at h
      · rename_i as ae1 h1
        obtain ⟨t, h3, h4⟩ := Option.map_eq_some_iff.mp h
        cases h4
        exact takes_K g h1 q fun ts e ht g1 s1 => dtsK_of (k _ _ ⟨_, rfl, ⟨_, rfl, _, rfl, datsT_ok (ts := fun _ => True) h3 ht⟩, trivial⟩ g1 s1)
      · cases h
    · split at h
      · rename_i as ae1 h1
        obtain ⟨t, h3, h4⟩ := Option.map_eq_some_iff.mp h
        cases h4
        exact takes_K g h1 q fun ts e ht g1 s1 => k _ _ ⟨_, rfl, ⟨ts, rfl, Nat.le_of_eq ht.length, Nat.le_of_eq ht.length.symm, joinA_ok h3 ht⟩, trivial⟩ g1 s1
      · cases h
    · cases q
      cases h
      exact k _ _ ⟨_, rfl, ⟨[], rfl, Nat.le_refl _, Nat.le_refl _, fun y hy => nomatch hy⟩, trivial⟩ g (St.refl _ _)
    · cases q
      cases h
      exact k _ _ ⟨_, rfl, ⟨_, rfl, rfl⟩, trivial⟩ g (St.refl _ _)
    · obtain ⟨r, rfl, q1⟩ := r1 (ae := []) q
      split at h
      · rename_i v ae1 h1
        obtain ⟨t, h3, h4⟩ := Option.map_eq_some_iff.mp h
        cases h4
        exact take_K g h1 q1 fun t e ht g1 s1 => dtK_of (k _ _ ⟨_, rfl, ⟨_, rfl, AV.dat_ok h3 ht⟩, trivial⟩ g1 s1)
      · cases h
    · obtain ⟨r, s, rfl, q1, q2⟩ := r2 q
      unfold ixA at h
      split at h
      · rename_i T gg ti tg h1 h2
        obtain ⟨t, h3, h4⟩ := Option.map_eq_some_iff.mp h
        cases h4
        obtain ⟨y, hy, hyg⟩ := dt_ok h2 g q2
        refine treeK_of hy (dtK_of ?_)
        obtain ⟨a, e1, e2⟩ := Option.bind_eq_some_iff.mp h1
        obtain ⟨u, e3, e4⟩ := Option.map_eq_some_iff.mp e2
        cases e4
        obtain ⟨t', e5, e6⟩ := tree_ok e1 g q1
        have tg := tag_ok g q1 e5
        cases a with
        | d x =>
          cases e3
          obtain ⟨d, rfl, e7⟩ := e6
          obtain ⟨kk, xs, i, kx, x, rfl, hi, z1, z2, z3⟩ := item_ok h3 ⟨e7, tg⟩ hyg
          rw [hi]
          exact ix_K e5 (.inl ⟨kk, rfl⟩) z1 z2 (k _ _ ⟨_, rfl, ⟨_, rfl, z3⟩, trivial⟩ g (St.refl _ _))
        | l x lo hi =>
          obtain ⟨ts, rfl, c1, c2, c3⟩ := e6
          cases x with
          | d x =>
            cases e3
            obtain ⟨ds, rfl, c4⟩ := leaves_of c3
            rw [List.length_map] at c1 c2
            have e : OT.dat (.nod none (ds.map .leaf)) = .list ds := by show PyData.list (OT.dats _) = _; rw [dats_leafs]
            rw [e] at tg
            obtain ⟨kk, xs, i, kx, x, hd, hi, z1, z2, z3⟩ := item_ok h3 ⟨⟨ds, rfl, c1, c2, c4⟩, tg⟩ hyg
            have : xs = ds := by cases kk <;> (cases hd; try rfl)
            subst this
            rw [hi]
            exact ix_K e5 (.inr rfl) z1 z2 (k _ _ ⟨_, rfl, ⟨_, rfl, z3⟩, trivial⟩ g (St.refl _ _))
          | _ => cases e3
        | o n => cases e3
      · cases h
    · obtain ⟨r, rfl, q1⟩ := r1 (ae := []) q
      split at h
      · rename_i p h1
        obtain ⟨t, h3, h4⟩ := Option.map_eq_some_iff.mp h
        cases h4
        refine sh_K g h1 q1 fun x hx => ?_
        obtain ⟨kk, xs, rfl, hu⟩ := tupleT_ok h3 hx.1
        have tg := sqTg_ok (e := .tuple xs) hx.2 (lenD_sq kk xs)
        cases kk <;> exact k _ _ ⟨_, rfl, ⟨_, rfl, hu⟩, tg⟩ g (St.refl _ _)
      · cases h
    · obtain ⟨r, rfl, q1⟩ := r1 (ae := []) q
      split at h
      · rename_i p h1
        obtain ⟨⟨kk, t, lo, hi⟩, h3, h4⟩ := Option.map_eq_some_iff.mp h
        cases h4
        refine sh_K g h1 q1 fun x hx => ?_
        obtain ⟨xs, rfl, c1, c2, c3⟩ := seqOfT_ok h3 hx.1
        have tg := sqTg_ok (e := OT.dat (.nod none (xs.map .leaf))) hx.2 (by rw [lenD_map]; exact lenD_sq kk xs)
        cases kk <;> exact k _ _ ⟨_, rfl, l_of c1 c2 c3, tg⟩ g (St.refl _ _)
      · cases h
    · obtain ⟨r, rfl, q1⟩ := r1 (ae := []) q
      split at h
      · rename_i p h1
        split at h
        · rename_i kk t lo hi h3
          split at h
          · rename_i c
            cases h
            refine sh_K g h1 q1 fun x hx => ?_
            obtain ⟨xs, rfl, c1, c2, c3⟩ := seqOfT_ok h3 hx.1
            obtain ⟨ds, d1, d2, d3⟩ := srt_ok c c3
            have tg := sqTg_ok (e := OT.dat (.nod none (ds.map .leaf))) hx.2 (by rw [lenD_map, d2]; exact lenD_sq kk xs)
            cases kk <;> exact ⟨ds, d1, k _ _ ⟨_, rfl, l_of (by omega) (by omega) d3, tg⟩ g (St.refl _ _)⟩
          · cases h
        · cases h
      · cases h
    · obtain ⟨r, rfl, q1⟩ := r1 (ae := []) q
      split at h
      · rename_i p h1
        split at h
        · rename_i lo hi h3
          split at h
          · rename_i c
            cases h
            obtain ⟨t, ht, hg⟩ := dt_ok h1 g q1
            refine treeK_of ht (dtK_of ?_)
            obtain ⟨n, e, c1, c2⟩ := intOf_ok h3 hg.1
            rw [e]
            obtain ⟨d1, d2, d3⟩ := rg_in c1 c2
            exact ⟨by omega, k _ _ ⟨_, rfl, l_of d1 d2 d3, trivial⟩ g (St.refl _ _)⟩
          · cases h
        · cases h
      · cases h
    · obtain ⟨r, rfl, q1⟩ := r1 (ae := []) q
      split at h
      · rename_i p h1
        split at h
        · rename_i lo hi h3
          split at h
          · rename_i c
            cases h
            obtain ⟨t, ht, hg⟩ := dt_ok h1 g q1
            refine treeK_of ht (dtK_of ?_)
            obtain ⟨n, e, c1, c2⟩ := intOf_ok h3 hg.1
            rw [e]
            obtain ⟨d1, d2, d3⟩ := rg_in c1 c2
            exact ⟨by omega, k _ _ ⟨_, rfl, ⟨_, rfl, _, rfl, d1, d2, d3⟩, trivial⟩ g (St.refl _ _)⟩
          · cases h
        · cases h
      · cases h
    · obtain ⟨r, rfl, q1⟩ := r1 (ae := []) q
      split at h
      · rename_i p h1
        split at h
        · rename_i t lo hi h3
          cases h
          refine sh_K g h1 q1 fun x hx => ?_
          obtain ⟨xs, rfl, c1, c2, c3⟩ := seqOfT_ok h3 hx.1
          have tg := sqTg_ok (e := OT.dat (.nod none (xs.reverse.map .leaf))) hx.2 (by rw [lenD_map, List.length_reverse]; rfl)
          exact k _ _ ⟨_, rfl, l_of (by rw [List.length_reverse]; exact c1) (by rw [List.length_reverse]; exact c2) (fun x hx => c3 x (List.mem_reverse.mp hx)), tg⟩ g (St.refl _ _)
        · rename_i t lo hi h3
          cases h
          refine sh_K g h1 q1 fun x hx => ?_
          obtain ⟨xs, rfl, c1, c2, c3⟩ := seqOfT_ok h3 hx.1
          have tg := sqTg_ok (e := .tuple xs.reverse) hx.2 (by show some _ = some _; rw [List.length_reverse])
          exact k _ _ ⟨_, rfl, ⟨_, rfl, _, rfl, by rw [List.length_reverse]; exact c1, by rw [List.length_reverse]; exact c2, fun x hx => c3 x (List.mem_reverse.mp hx)⟩, tg⟩ g (St.refl _ _)
        · cases h
      · cases h
    · cases h
end
end A
end PyI

namespace PyI
open PySem
namespace A
section
variable {O : Opq}
/-! ### slices -/
def slLen (lo hi : Option (Int × Int)) (l h : Nat) : Nat × Nat := match lo, hi with
  | none, none => (l, h)
  | none, some (c, c') => if 0 ≤ c then (min c.toNat l, min c'.toNat h) else (0, h)
  | some (c, c'), none => if 0 ≤ c then (l - c'.toNat, h - c.toNat) else (0, h)
  | _, _ => (0, h)
def inB (o : Option (Int × Int)) (v : Option Int) : Prop := match o, v with
  | none, none => True
  | some (c, c'), some i => c ≤ i ∧ i ≤ c'
  | _, _ => False
theorem sIx_pos {n d : Nat} {i : Int} (h : 0 ≤ i) : HT.sIx n d (some i) = min i.toNat n := by
  show (if i < 0 then (i + (n : Int)).toNat else min i.toNat n) = _
  rw [if_neg (by omega)]
theorem cutD_lenP (xs : List D) (lo hi : Option Int) : (cutD xs lo hi).length = min (HT.sIx xs.length xs.length hi - HT.sIx xs.length 0 lo) (xs.length - HT.sIx xs.length 0 lo) := by
  unfold cutD
  rw [List.length_take, List.length_drop]
theorem slLen_ok {lo hi : Option (Int × Int)} {vl vh : Option Int} {l h : Nat} {xs : List D} (h1 : inB lo vl) (h2 : inB hi vh) (h3 : l ≤ xs.length) (h4 : xs.length ≤ h) : (slLen lo hi l h).1 ≤ (cutD xs vl vh).length ∧ (cutD xs vl vh).length ≤ (slLen lo hi l h).2 := by
  have any : (0 : Nat) ≤ (cutD xs vl vh).length ∧ (cutD xs vl vh).length ≤ h := by rw [cutD_lenP]; omega
  cases lo with
  | none =>
    cases vl with
    | some _ => exact h1.elim
    | none =>
      cases hi with
      | none =>
        cases vh with
        | some _ => exact h2.elim
        | none => rw [cutD_lenP, HT.sIx_none, HT.sIx_none]; show l ≤ _ ∧ _ ≤ h; omega
      | some p =>
        cases vh with
        | none => exact h2.elim
        | some i =>
          obtain ⟨c, c'⟩ := p
          have h2 : c ≤ i ∧ i ≤ c' := h2
          unfold slLen
          simp only
          split
          · rename_i c0
            rw [cutD_lenP, HT.sIx_none, sIx_pos (by omega)]
            simp only
            omega
          · exact any
  | some p =>
    cases vl with
    | none => exact h1.elim
    | some i =>
      obtain ⟨c, c'⟩ := p
      have h1 : c ≤ i ∧ i ≤ c' := h1
      cases hi with
      | none =>
        cases vh with
        | some _ => exact h2.elim
        | none =>
          unfold slLen
          simp only
          split
          · rename_i c0
            rw [cutD_lenP, HT.sIx_none, sIx_pos (by omega)]
            simp only
            omega
          · exact any
      | some p => exact any
theorem cutD_mem2 {xs : List D} {lo hi : Option Int} {x : D} (h : x ∈ cutD xs lo hi) : x ∈ xs := List.mem_of_mem_drop (List.mem_of_mem_take h)
def slA (a : AR) (lo hi : Option (Int × Int)) (ae : AEnv) : Option AR := match a.shT ae with
  | some p => (match seqOfT p.1 with
    | some (true, t, l, h) => some (.own (.l (.d t) (slLen lo hi l h).1 (slLen lo hi l h).2) .no)
    | some (false, t, l, h) => some (.own (.d (.seq false t (slLen lo hi l h).1 (slLen lo hi l h).2)) .no)
    | none => none)
  | none => none
theorem slA_ok {a ar : AR} {lo hi : Option (Int × Int)} {vl vh : Option Int} {ae : AEnv} {r : R} {env : Env} {Q : R → Env → Prop} (h : slA a lo hi ae = some ar) (g : G O ae env) (q : γR O a r env) (h1 : inB lo vl) (h2 : inB hi vh) (k : ∀ r, γR O ar r env → Q r env) : wpSl r vl vh env Q := by
  unfold slA at h
  split at h
  · rename_i p hp
    split at h
    · rename_i t l hh hs
      cases h
      refine sh_K g hp q fun d hd => ?_
      obtain ⟨xs, rfl, c1, c2, c3⟩ := seqOfT_ok hs hd.1
      have b := slLen_ok h1 h2 c1 c2
      exact k _ ⟨_, rfl, l_of b.1 b.2 fun x hx => c3 x (cutD_mem2 hx), trivial⟩
    · rename_i t l hh hs
      cases h
      refine sh_K g hp q fun d hd => ?_
      obtain ⟨xs, rfl, c1, c2, c3⟩ := seqOfT_ok hs hd.1
      have b := slLen_ok h1 h2 c1 c2
      exact k _ ⟨_, rfl, ⟨_, rfl, _, rfl, b.1, b.2, fun x hx => c3 x (cutD_mem2 hx)⟩, trivial⟩
    · cases h
  · cases h
/-! ### methods -/
def mtA (m : Mt) (o : AR) (rs : List AR) (ae : AEnv) : Option (AR × AEnv × List Nat) := match m, o, rs with
  | .append, .al v, [b] => (match b.takeT ae with
    | some (x, ae1) => (match ae1.at v with
      | .v (.l t lo hi) => if hi < bigL then (AV.join t x).map fun u => (.own (.d .none) .no, ae1.set v (.v (.l u (lo + 1) (hi + 1))), [v]) else none
      | _ => none)
    | none => none)
  | .extend, .al v, [b] => (match b.shT ae with
    | some p => (match seqOfT p.1, ae.at v with
      | some (true, t', lo', hi'), .v (.l t lo hi) => if hi + hi' ≤ bigL then (AV.join t (.d t')).map fun u => (.own (.d .none) .no, ae.set v (.v (.l u (lo + lo') (hi + hi'))), [v]) else none
      | _, _ => none)
    | none => none)
  | .pop, .al v, [] => (match ae.at v with
    | .v (.l (.d t) lo hi) => if 1 ≤ lo then some (.own (.d t) .no, ae.set v (.v (.l (.d t) (lo - 1) (hi - 1))), [v]) else none
    | _ => none)
  | .popAt, .al v, [b] => (match b.dt ae, ae.at v with
    | some (ti, tg), .v (.l (.d t) lo hi) => (match intOf ti with
      | some (l, h) => if (decide (-(2 ^ 63) ≤ l) && (decide (h < 2 ^ 63) && inR l h lo tg (.sq v))) = true then some (.own (.d t) .no, ae.set v (.v (.l (.d t) (lo - 1) (hi - 1))), [v]) else none
      | none => none)
    | _, _ => none)
  | _, _, _ => none
theorem lookK_of {env : Env} {v : Nat} {t : OT} {K : OT → Prop} (h : lk env v = some t) (k : K t) : lookK env v [] K := by
  unfold lookK
  rw [h]; exact k
theorem putK_of {env : Env} {v : Nat} {t n : OT} {K : Env → Prop} (h : lk env v = some t) (k : K (env.set v (some n))) : putK env v [] n K := by
  unfold putK
  rw [h]
  exact stK_of (lk_lt h) k
theorem slen_l {env : Env} {v : Nat} {ts : List OT} (h : lk env v = some (.nod none ts)) : slen env v = some ts.length := by
  unfold slen dO
  rw [h]
  show some (OT.dats ts).length = _
  rw [dats_len]
theorem mtA_ok {m : Mt} {o ar : AR} {ars : List AR} {ae ae' : AEnv} {tc : List Nat} {r : R} {rs : List R} {env : Env} {Q : R → Env → Prop} (h : mtA m o ars ae = some (ar, ae', tc)) (g : G O ae env) (qo : γR O o r env) (q : F2 (fun a r => γR O a r env) ars rs)
    (k : ∀ r e, γR O ar r e → G O ae' e → St tc env e → Q r e) : wpM m r rs env Q := by
  unfold mtA at h
  split at h
  · cases qo
    obtain ⟨b, rfl, q1⟩ := r1 (ae := []) q
    split at h
    · rename_i x ae1 h1
      split at h
      · rename_i t lo hi h2
        split at h
        · rename_i c
          obtain ⟨u, h3, h4⟩ := Option.map_eq_some_iff.mp h
          cases h4
          unfold wpM
          refine take_K g h1 q1 fun y e hy g1 s1 => ?_
          obtain ⟨z, z1, ⟨ts, rfl, z2, z3, z4⟩, zl⟩ := g1.lt h2
          refine lookK_of z1 ⟨by rw [sizeLine_eq]; unfold bigL at c; omega, ⟨putK_of z1 (k _ _ ⟨_, rfl, ⟨_, rfl, rfl⟩, trivial⟩ (g1.set ⟨_, rfl, ts ++ [y], rfl, ?_, ?_, fun w hw => ?_⟩) ?_)⟩⟩
          · rw [List.length_append, List.length_singleton]; omega
          · rw [List.length_append, List.length_singleton]; omega
          · rcases List.mem_append.mp hw with hw | hw
            · exact AV.join_ok h3 (.inl (z4 w hw))
            · rw [List.mem_singleton.mp hw]; exact AV.join_ok h3 (.inr hy)
          · exact (s1.trans St.set).mono fun i hi => hi
        · cases h
      · cases h
    · cases h
  · cases qo
    obtain ⟨b, rfl, q1⟩ := r1 (ae := []) q
    split at h
    · rename_i p h1
      split at h
      · rename_i t' lo' hi' t lo hi h2 h3
        split at h
        · rename_i c
          obtain ⟨u, h4, h5⟩ := Option.map_eq_some_iff.mp h
          cases h5
          refine sh_K g h1 q1 fun d hd => ?_
          obtain ⟨xs, rfl, c1, c2, c3⟩ := seqOfT_ok h2 hd.1
          obtain ⟨z, z1, ⟨ts, rfl, z2, z3, z4⟩, zl⟩ := g.lt h3
          refine lookK_of z1 ⟨by rw [sizeLine_eq]; unfold bigL at c; omega, ⟨putK_of z1 (k _ _ ⟨_, rfl, ⟨_, rfl, rfl⟩, trivial⟩ (g.set ⟨_, rfl, ts ++ xs.map .leaf, rfl, ?_, ?_, fun w hw => ?_⟩) St.set)⟩⟩
          · rw [List.length_append, List.length_map]; omega
          · rw [List.length_append, List.length_map]; omega
          · rcases List.mem_append.mp hw with hw | hw
            · exact AV.join_ok h4 (.inl (z4 w hw))
            · obtain ⟨x, hx, rfl⟩ := List.mem_map.mp hw
              exact AV.join_ok h4 (.inr ⟨x, rfl, c3 x hx⟩)
        · cases h
      · cases h
    · cases h
  · cases qo
    cases q
    split at h
    · rename_i t lo hi h1
      split at h
      · rename_i c
        cases h
        obtain ⟨z, z1, ⟨ts, rfl, z2, z3, z4⟩, zl⟩ := g.lt h1
        obtain ⟨ds, rfl, c4⟩ := leaves_of z4
        rw [List.length_map] at z2 z3
        rcases List.eq_nil_or_concat ds with e | ⟨es, d, e⟩
        · subst e; simp at z2; omega
        · subst e
          rw [List.concat_eq_append] at *
          rw [List.length_append, List.length_singleton] at z2 z3
          exact lookK_of z1 (PopP.snoc (putK_of z1 (k _ _ ⟨_, rfl, ⟨d, rfl, c4 d (by simp)⟩, trivial⟩ (g.set ⟨_, rfl, l_of (by omega) (by omega) fun x hx => c4 x (List.mem_append_left _ hx)⟩) St.set)))
      · cases h
    · cases h
  · cases qo
    obtain ⟨b, rfl, q1⟩ := r1 (ae := []) q
    split at h
    · rename_i ti tg t lo hi h1 h2
      split at h
      · rename_i l hh h3
        split at h
        · rename_i c
          cases h
          simp only [Bool.and_eq_true, decide_eq_true_eq] at c
          obtain ⟨y, hy, hg⟩ := dt_ok h1 g q1
          refine treeK_of hy (dtK_of ?_)
          obtain ⟨i, e, c1, c2⟩ := intOf_ok h3 hg.1
          obtain ⟨z, z1, ⟨ts, rfl, z2, z3, z4⟩, zl⟩ := g.lt h2
          have sl := slen_l z1
          have b := inR_ok (len := ts.length) (d := .list (OT.dats ts)) c.2.2 c1 c2 z2 (by rw [← e]; exact hg.2) ⟨ts.length, by show some _ = _; rw [dats_len], sl⟩ (by show some _ = _; rw [dats_len])
          rw [e]
          obtain ⟨n, n1, n2, _⟩ := ixN_in b.1 b.2
          obtain ⟨ds, rfl, c4⟩ := leaves_of z4
          rw [List.length_map] at z2 z3 n2
          refine lookK_of z1 ⟨⟨by omega, by omega⟩, n, ds[n], n1, by rw [List.getElem?_map, List.getElem?_eq_getElem n2]; rfl, putK_of z1 (k _ _ ⟨_, rfl, ⟨_, rfl, c4 _ (List.getElem_mem n2)⟩, trivial⟩ (g.set ⟨_, rfl, ?_⟩) St.set)⟩
          rw [erase_map]
          have el : (ds.eraseIdx n).length = ds.length - 1 := by rw [List.length_eraseIdx, if_pos n2]
          exact l_of (by omega) (by omega) fun x hx => c4 x (List.mem_of_mem_eraseIdx hx)
        · cases h
      · cases h
    · cases h
  · cases h
/-! ### calls -/
structure ACx where
  call : Nat → List AV → Option (AV × List AS)
  keep : Nat → Nat → Bool
  draw : Nat
def prepA (keep : Nat → Bool) : Nat → List AR → AEnv → Option (List AR × AEnv)
  | _, [], ae => some ([], ae)
  | j, .own a _ :: rs, ae => (match prepA keep (j + 1) rs ae with
    | some (qs, e) => some (.own a .no :: qs, e)
    | none => none)
  | j, .al i :: rs, ae => if keep j = true then (match prepA keep (j + 1) rs ae with
      | some (qs, e) => some (.al i :: qs, e)
      | none => none) else (match (AR.al i).takeT ae with
    | some (a, ae1) => (match prepA keep (j + 1) rs ae1 with
      | some (qs, e) => some (.own a .no :: qs, e)
      | none => none)
    | none => none)
def Bare (O : Opq) (a : AR) (r : R) : Prop := ∀ env, γR O a r env
theorem prep_K {keep : Nat → Bool} : ∀ {j : Nat} {ars qs : List AR} {rs : List R} {ae ae' : AEnv} {env env0 : Env} {K : List R → Env → Prop}, prepA keep j ars ae = some (qs, ae') → G O ae env → F2 (fun a r => γR O a r env0) ars rs →
    (∀ ps e, F2 (Bare O) qs ps → F2 (fun r p => ∀ t, r = .own t → p = .own t) rs ps → G O ae' e → St [] env e → K ps e) → prepK keep j rs env K
  | j, [], qs, rs, ae, ae', env, env0, K, h, g, q, k => by
    cases q; cases h
    exact k [] env .nil .nil g (St.refl _ _)
  | j, .own a t :: ars, qs, rs, ae, ae', env, env0, K, h, g, q, k => by
    cases q with
    | cons q1 q2 =>
      unfold prepA at h
      split at h
      · rename_i us e h1
        cases h
        obtain ⟨x, rfl, q3, q4⟩ := q1
        show prepK keep (j + 1) _ env _
        exact prep_K h1 g q2 fun ps e h2 h3 g1 s1 => k _ _ (.cons (fun _ => ⟨x, rfl, q3, trivial⟩) h2) (.cons (fun t e => e) h3) g1 s1
      · cases h
  | j, .al i :: ars, qs, rs, ae, ae', env, env0, K, h, g, q, k => by
    cases q with
    | cons q1 q2 =>
      cases q1
      unfold prepA at h
      unfold prepK
      split at h
      · rename_i c
        rw [c]
        simp only
        split at h
        · rename_i us e h1
          cases h
          exact prep_K h1 g q2 fun ps e h2 h3 g1 s1 => k _ _ (.cons (fun _ => rfl) h2) (.cons (fun t e => nomatch e) h3) g1 s1
        · cases h
      · rename_i c
        have c : keep j = false := by simpa using c
        rw [c]
        simp only
        split at h
        · rename_i a ae1 h0
          split at h
          · rename_i us e h1
            cases h
            have tk := take_K (O := O) (K := fun t e => ∃ d, t = .leaf d ∧ prepK keep (j + 1) _ e fun qs e => K (.own t :: qs) e) g h0 (r := .al i []) rfl fun t e ht g1 s1 => by
              have hd : ∃ d, t = .leaf d := by
                unfold AR.takeT at h0
                simp only at h0
                split at h0
                · obtain ⟨u, _, h2⟩ := Option.map_eq_some_iff.mp h0
                  cases h2
                  obtain ⟨d, rfl, _⟩ := ht
                  exact ⟨d, rfl⟩
                · cases h0
              obtain ⟨d, rfl⟩ := hd
              exact ⟨d, rfl, prep_K h1 g1 q2 fun ps e h2 h3 g2 s2 => k _ _ (.cons (fun _ => ⟨_, rfl, ht, trivial⟩) h2) (.cons (fun t e => nomatch e) h3) g2 (s1.trans s2)⟩
            unfold takeK at tk
            simp only at tk
            split at tk
            · rename_i t ht
              refine dtK_mono (fun d q => stK_mono (fun e q => ?_) q) tk
              obtain ⟨d', hd', q⟩ := q
              cases hd'
              exact q
            · exact tk.elim
          · cases h
        · cases h
def lentA : List AR → List Nat
  | [] => []
  | .al i :: rs => i :: lentA rs
  | .own _ _ :: rs => lentA rs
theorem lent_eq {qs : List AR} {ps : List R} (h : F2 (Bare O) qs ps) : lent ps = lentA qs := by
  induction h with
  | nil => rfl
  | @cons a b as bs h1 _ ih =>
    have h1 := h1 []
    cases a with
    | own x y => obtain ⟨t, rfl, _⟩ := h1; exact ih
    | al i => cases h1; show i :: lent bs = _; rw [ih]; rfl
def treesA : List AR → AEnv → Option (List AV)
  | [], _ => some []
  | r :: rs, ae => match r.tree ae, treesA rs ae with
    | some a, some as => some (a :: as)
    | _, _ => none
theorem trees_ok {ae : AEnv} {env : Env} (g : G O ae env) : ∀ {qs : List AR} {ps : List R} {as : List AV}, treesA qs ae = some as → F2 (Bare O) qs ps → ∃ ts, argTrees env ps = some ts ∧ F2 (γ O) as ts ∧ F2 (fun p t => ∀ u, p = .own u → t = u) ps ts
  | [], _, _, h, q => by cases q; cases h; exact ⟨[], rfl, .nil, .nil⟩
  | a :: qs, _, _, h, q => by
    cases q with
    | cons q1 q2 =>
      unfold treesA at h
      split at h
      · rename_i x xs h1 h2
        cases h
        obtain ⟨t, h3, h4⟩ := tree_ok h1 g (q1 env)
        obtain ⟨ts, h5, h6, h7⟩ := trees_ok g h2 q2
        exact ⟨t :: ts, by unfold argTrees; rw [h3]; simp only; rw [h5]; rfl, .cons h4 h6, .cons (fun u e => by subst e; cases h3; rfl) h7⟩
      · cases h
theorem argK_of {env : Env} : ∀ {rs : List R} {ts : List OT} {K : List OT → Prop}, argTrees env rs = some ts → K ts → argK env rs K
  | [], _, K, h, k => by cases h; exact k
  | r :: rs, ts, K, h, k => by
    unfold argTrees at h
    split at h
    · rename_i t h1
      obtain ⟨us, h2, rfl⟩ := Option.map_eq_some_iff.mp h
      exact treeK_of h1 (argK_of h2 k)
    · cases h
theorem dropK_of : ∀ {rs : List R} {env : Env} {K : Env → Prop}, (∀ i ∈ lent rs, i < env.length) → K (dropLent rs env) → dropK rs env K
  | [], _, _, _, k => k
  | .own _ :: rs, env, K, h, k => dropK_of (rs := rs) h k
  | .al i _ :: rs, env, K, h, k => stK_of (h i List.mem_cons_self) (dropK_of (rs := rs) (fun j hj => by rw [List.length_set]; exact h j (List.mem_cons_of_mem _ hj)) k)
theorem giveK_of : ∀ {rs : List R} {fin : List (Option OT)} {env : Env} {K : Env → Prop}, fin.length = rs.length → (∀ i ∈ lent rs, i < env.length) → K (giveBack rs fin env) → giveK rs fin env K
  | [], fin, _, _, _, _, k => by cases fin with
    | nil => exact k
    | cons _ _ => exact k
  | .own _ :: rs, x :: fin, env, K, hl, h, k => giveK_of (rs := rs) (fin := fin) (Nat.succ.inj hl) h k
  | .al i _ :: rs, x :: fin, env, K, hl, h, k => stK_of (h i List.mem_cons_self) (giveK_of (rs := rs) (fin := fin) (Nat.succ.inj hl) (fun j hj => by rw [List.length_set]; exact h j (List.mem_cons_of_mem _ hj)) k)
  | .own _ :: _, [], _, _, hl, _, _ => nomatch hl
  | .al _ _ :: _, [], _, _, hl, _, _ => nomatch hl
def dropA : List AR → AEnv → AEnv
  | [], ae => ae
  | .al i :: rs, ae => dropA rs (ae.set i .any)
  | .own _ _ :: rs, ae => dropA rs ae
def giveA : List AR → List AS → AEnv → AEnv
  | .al i :: rs, s :: fs, ae => giveA rs fs (ae.set i s)
  | .own _ _ :: rs, _ :: fs, ae => giveA rs fs ae
  | _, _, ae => ae
theorem drop_ok : ∀ {qs : List AR} {ps : List R} {ae : AEnv} {env : Env}, F2 (Bare O) qs ps → G O ae env → G O (dropA qs ae) (dropLent ps env) ∧ St (lentA qs) env (dropLent ps env) ∧ (dropLent ps env).length = env.length
  | [], _, _, env, q, g => by cases q; exact ⟨g, St.refl _ _, rfl⟩
  | .own a t :: qs, _, ae, env, q, g => by
    cases q with
    | cons q1 q2 =>
      obtain ⟨x, rfl, _⟩ := q1 env
      have r := drop_ok (qs := qs) q2 g
      exact r
  | .al i :: qs, _, ae, env, q, g => by
    cases q with
    | cons q1 q2 =>
      cases q1 env
      obtain ⟨h1, h2, h3⟩ := drop_ok (ae := ae.set i .any) (env := env.set i none) q2 (g.set trivial)
      exact ⟨h1, (St.set.trans h2).mono fun j hj => hj, by show (dropLent _ (env.set i none)).length = _; rw [h3, List.length_set]⟩
theorem give_ok : ∀ {qs : List AR} {ps : List R} {fs : List AS} {fin : List (Option OT)} {ae : AEnv} {env : Env}, F2 (Bare O) qs ps → F2 (γS O) fs fin → fs.length = qs.length → G O ae env → G O (giveA qs fs ae) (giveBack ps fin env) ∧ St (lentA qs) env (giveBack ps fin env)
  | [], _, _, _, _, env, q, f, hl, g => by
    cases q
    cases f with
    | nil => exact ⟨g, St.refl _ _⟩
    | cons _ _ => cases hl
  | .own a t :: qs, _, _, _, ae, env, q, f, hl, g => by
    cases q with
    | cons q1 q2 =>
      obtain ⟨x, rfl, _⟩ := q1 env
      cases f with
      | nil => cases hl
      | cons f1 f2 =>
        have r := give_ok (qs := qs) q2 f2 (Nat.succ.inj hl) g
        exact r
  | .al i :: qs, _, _, _, ae, env, q, f, hl, g => by
    cases q with
    | cons q1 q2 =>
      cases q1 env
      cases f with
      | nil => cases hl
      | cons f1 f2 =>
        obtain ⟨h1, h2⟩ := give_ok (env := env.set i _) q2 f2 (Nat.succ.inj hl) (g.set f1)
        exact ⟨h1, (St.set.trans h2).mono fun j hj => hj⟩
def drawTag (Δ : ACx) (f : Nat) (ars : List AR) (l : List Nat) : Tg := if f = Δ.draw then (match ars with
  | [_, .own _ (.ln j)] => if l.contains j = true then .no else .lt j
  | _ => .no) else .no
def callA (Δ : ACx) (f : Nat) (ars : List AR) (ae : AEnv) : Option (AR × AEnv × List Nat) := match prepA (Δ.keep f) 0 ars ae with
  | some (qs, ae1) => if nodupB (lentA qs) = true then (match treesA qs ae1 with
    | some as => (match Δ.call f as with
      | some (a, fs) => if fs.length = qs.length then some (.own a (drawTag Δ f ars (lentA qs)), giveA qs fs (dropA qs ae1), lentA qs) else none
      | none => none)
    | none => none) else none
  | none => none
/-- a draw is below what was asked -/
def Below (ts : List OT) (t : OT) : Prop := ∃ (p : OT) (m r : Nat), ts = [p, .leaf (.int m)] ∧ t = .leaf (.int r) ∧ r < m
structure Snd (O : Opq) (Δ : ACx) (Γ : Ctx) : Prop where
  keep : Γ.keep = Δ.keep
  call : ∀ f as a fs ts, Δ.call f as = some (a, fs) → F2 (γ O) as ts → CallP (Γ.fn f) ts fun t fin => γ O a t ∧ F2 (γS O) fs fin ∧ (f = Δ.draw → Below ts t)
theorem lent_lt {qs : List AR} {as : List AV} {ae : AEnv} {env : Env} (g : G O ae env) : treesA qs ae = some as → ∀ i ∈ lentA qs, i < env.length := by
  intro h
  induction qs generalizing as with
  | nil => intro i hi; cases hi
  | cons a qs ih =>
    unfold treesA at h
    split at h
    · rename_i x xs h1 h2
      cases a with
      | own y z => exact ih h2
      | al j =>
        intro i hi
        rcases List.mem_cons.mp hi with rfl | hi
        · unfold AR.tree at h1
          simp only at h1
          split at h1
          · rename_i b hb
            exact (g.lt hb).choose_spec.2.2
          · cases h1
        · exact ih h2 i hi
    · cases h
theorem callA_ok {Δ : ACx} {Γ : Ctx} (S : Snd O Δ Γ) {f : Nat} {ars : List AR} {ae ae' : AEnv} {ar : AR} {tc : List Nat} {rs : List R} {env : Env} {Q : R → Env → Prop} (h : callA Δ f ars ae = some (ar, ae', tc)) (g : G O ae env) (q : F2 (fun a r => γR O a r env) ars rs)
    (k : ∀ r e, γR O ar r e → G O ae' e → St tc env e → Q r e) : callK Γ f rs env Q := by
  unfold callA at h
  split at h
  · rename_i qs ae1 h1
    split at h
    · rename_i hn
      split at h
      · rename_i as h2
        split at h
        · rename_i a fs h3
          split at h
          · rename_i hl
            cases h
            unfold callK
            rw [S.keep]
            refine prep_K h1 g q fun ps e b1 b2 g1 s1 => ?_
            rw [lent_eq b1, hn]
            obtain ⟨ts, t1, t2, t3⟩ := trees_ok g1 h2 b1
            refine argK_of t1 ?_
            have lt := lent_lt g1 h2
            refine (S.call f as a fs ts h3 t2).mono fun t fin ht => ?_
            obtain ⟨d1, d2, d3⟩ := drop_ok b1 g1
            obtain ⟨g2, g3⟩ := give_ok b1 ht.2.1 hl d1
            have st : St (lentA qs) env (giveBack ps fin (dropLent ps e)) := ((s1.trans d2).trans g3).mono fun i hi => by simpa using hi
            refine dropK_of (by rw [lent_eq b1]; exact lt) (giveK_of (by rw [← ht.2.1.length, hl, b1.length]) (by rw [lent_eq b1, d3]; exact lt) (k _ _ ⟨t, rfl, ht.1, ?_⟩ g2 st))
            unfold drawTag
            split
            · rename_i c
              split
              · rename_i x y j
                split
                · exact trivial
                · rename_i cc
                  obtain ⟨p, m, r, e1, e2, e3⟩ := ht.2.2 c
                  cases q with
                  | cons q1 q2 =>
                    cases q2 with
                    | cons q2 q3 =>
                      cases q3
                      obtain ⟨u, rfl, _, m', u1, u2⟩ := q2
                      cases b2 with
                      | cons b2 b3 =>
                        cases b3 with
                        | cons b3 b4 =>
                          cases b4
                          have := b3 _ rfl
                          subst this
                          subst e1
                          cases t3 with
                          | cons _ t4 =>
                            cases t4 with
                            | cons t4 _ =>
                              have := t4 _ rfl
                              subst this
                              cases u1
                              subst e2
                              exact ⟨r, m, rfl, by rw [slen_st st fun z => cc (List.contains_iff_mem.mpr z)]; exact u2, e3⟩
              · exact trivial
            · exact trivial
          · cases h
        · cases h
      · cases h
    · cases h
  · cases h
end
end A
end PyI

namespace PyI
open PySem
namespace A
section
variable {O : Opq}
/-! ### either of two states -/
def leafy : AV → Bool
  | .d _ => true
  | _ => false
def joinS : AS → AS → AS
  | .v a, .v b => (match AV.join a b with
    | some c => .v c
    | none => if (leafy a && leafy b) = true then .fr else .any)
  | .fr, .fr => .fr
  | .fr, .v a => if leafy a = true then .fr else .any
  | .v a, .fr => if leafy a = true then .fr else .any
  | _, _ => .any
theorem leafy_ok {a : AV} {t : OT} (h : leafy a = true) (q : γ O a t) : ∃ d, t = .leaf d := by
  cases a with
  | d x => obtain ⟨d, rfl, _⟩ := q; exact ⟨d, rfl⟩
  | _ => cases h
theorem fr_of {a : AV} {x : Option OT} (h : leafy a = true) (q : γS O (.v a) x) : γS O .fr x := by
  obtain ⟨t, rfl, q⟩ := q
  obtain ⟨d, rfl⟩ := leafy_ok h q
  exact .inr ⟨d, rfl⟩
theorem joinS_ok {a b : AS} {x : Option OT} (h : γS O a x ∨ γS O b x) : γS O (joinS a b) x := by
  unfold joinS
  split
  · split
    · rename_i c hc
      rcases h with ⟨t, rfl, h⟩ | ⟨t, rfl, h⟩
      · exact ⟨t, rfl, AV.join_ok hc (.inl h)⟩
      · exact ⟨t, rfl, AV.join_ok hc (.inr h)⟩
    · split
      · rename_i c
        have c := Bool.and_eq_true_iff.mp c
        exact h.elim (fr_of c.1) (fr_of c.2)
      · exact trivial
  · exact h.elim id id
  · split
    · rename_i c; exact h.elim id (fr_of c)
    · exact trivial
  · split
    · rename_i c; exact h.elim (fr_of c) id
    · exact trivial
  · exact trivial
def zipS : List AS → List AS → List AS
  | a :: as, b :: bs => joinS a b :: zipS as bs
  | _, _ => []
theorem zipS_len : ∀ {as bs : List AS}, (zipS as bs).length ≤ as.length ∧ (zipS as bs).length ≤ bs.length
  | [], _ => by simp [zipS]
  | _ :: _, [] => by simp [zipS]
  | a :: as, b :: bs => by have := zipS_len (as := as) (bs := bs); simp [zipS]; omega
theorem zipS_at : ∀ {as bs : List AS} {i : Nat} {x : Option OT}, γS O ((as[i]?).getD .any) x ∨ γS O ((bs[i]?).getD .any) x → γS O (((zipS as bs)[i]?).getD .any) x
  | [], _, _, _, _ => trivial
  | _ :: _, [], _, _, _ => trivial
  | a :: as, b :: bs, 0, x, h => joinS_ok h
  | a :: as, b :: bs, i + 1, x, h => zipS_at (as := as) (bs := bs) (i := i) (by simpa using h)
def joinE (a b : AEnv) : AEnv := if a = b then a else ⟨zipS a.sl b.sl, a.fx.filter fun p => b.fx.contains p⟩
theorem joinE_ok {a b : AEnv} {env : Env} (h : G O a env ∨ G O b env) : G O (joinE a b) env := by
  unfold joinE
  split
  · rename_i c; subst c; exact h.elim id id
  · refine ⟨?_, fun i => zipS_at (h.imp (fun g => g.sl i) fun g => g.sl i), fun p hp => ?_⟩
    · have := zipS_len (as := a.sl) (bs := b.sl)
      rcases h with h | h
      · have := h.len; simp only; omega
      · have := h.len; simp only; omega
    · obtain ⟨h1, h2⟩ := List.mem_filter.mp hp
      exact h.elim (fun g => g.fx p h1) fun g => g.fx p (List.contains_iff_mem.mp h2)
def joinO : Option AEnv → Option AEnv → Option AEnv
  | none, b => b
  | a, none => a
  | some a, some b => some (joinE a b)
def GO (O : Opq) (a : Option AEnv) (env : Env) : Prop := ∃ e, a = some e ∧ G O e env
theorem joinO_ok {a b : Option AEnv} {env : Env} (h : GO O a env ∨ GO O b env) : GO O (joinO a b) env := by
  cases a with
  | none => exact h.elim (fun ⟨e, h, _⟩ => nomatch h) id
  | some a => cases b with
    | none => exact h.elim id (fun ⟨e, h, _⟩ => nomatch h)
    | some b =>
      refine ⟨_, rfl, joinE_ok ?_⟩
      rcases h with ⟨e, h, q⟩ | ⟨e, h, q⟩
      · cases h; exact .inl q
      · cases h; exact .inr q
def joinR : Option (AV × AEnv) → Option (AV × AEnv) → Option (Option (AV × AEnv))
  | none, b => some b
  | a, none => some a
  | some a, some b => (AV.join a.1 b.1).map fun c => some (c, joinE a.2 b.2)
def GR (O : Opq) (a : Option (AV × AEnv)) (t : OT) (env : Env) : Prop := ∃ v e, a = some (v, e) ∧ γ O v t ∧ G O e env
theorem joinR_ok {a b c : Option (AV × AEnv)} {t : OT} {env : Env} (h : joinR a b = some c) (q : GR O a t env ∨ GR O b t env) : GR O c t env := by
  cases a with
  | none => cases h; exact q.elim (fun ⟨v, e, h, _⟩ => nomatch h) id
  | some a => cases b with
    | none => cases h; exact q.elim id (fun ⟨v, e, h, _⟩ => nomatch h)
    | some b =>
      obtain ⟨x, h1, h2⟩ := Option.map_eq_some_iff.mp h
      cases h2
      rcases q with ⟨v, e, h, q1, q2⟩ | ⟨v, e, h, q1, q2⟩
      · cases h; exact ⟨_, _, rfl, AV.join_ok h1 (.inl q1), joinE_ok (.inl q2)⟩
      · cases h; exact ⟨_, _, rfl, AV.join_ok h1 (.inr q1), joinE_ok (.inr q2)⟩
/-! ### outcomes -/
structure AO where
  nx : Option AEnv
  ct : Option AEnv
  bk : Option AEnv
  rt : Option (AV × AEnv)
  tc : List Nat
def γO (O : Opq) (a : AO) (o : Out) (env : Env) : Prop := match o with
  | .nx => GO O a.nx env
  | .ct => GO O a.ct env
  | .bk => GO O a.bk env
  | .ret t => GR O a.rt t env
/-! ### a for's turns -/
structure AF where
  fin : AEnv
  bk : Option AEnv
  rt : Option (AV × AEnv)
  tc : List Nat
def aFor (ok : AEnv → Bool) (body : AEnv → Option AO) : Nat → AEnv → Option AF
  | 0, s => if ok s = true then some ⟨s, none, none, []⟩ else none
  | n + 1, s => if ok s = true then (match body s with
    | some o => (match joinO (some s) (joinO o.nx o.ct) with
      | some s' => if s' = s then some ⟨s, o.bk, o.rt, o.tc⟩ else (match aFor ok body n s' with
        | some r => (joinR o.rt r.rt).map fun rt => ⟨r.fin, joinO o.bk r.bk, rt, o.tc ++ r.tc⟩
        | none => none)
      | none => none)
    | none => none) else none
def γF (O : Opq) (a : AF) (o : Out) (env : Env) : Prop := match o with
  | .nx => G O a.fin env ∨ GO O a.bk env
  | .ret t => GR O a.rt t env
  | _ => False
theorem GO.some {a : AEnv} {env : Env} : GO O (some a) env ↔ G O a env := ⟨fun ⟨e, h, q⟩ => by cases h; exact q, fun q => ⟨a, rfl, q⟩⟩
section
variable {ok : AEnv → Bool} {body : AEnv → Option AO} {g : Nat → Env → Option (Option D)} {step : D → Env → Option (Out × Env)} {P : D → Prop} {ds : List D} {TC : List Nat} {env0 : Env}
/-- a turn -/
def TurnOk (O : Opq) (body : AEnv → Option AO) (step : D → Env → Option (Out × Env)) (P : D → Prop) (TC : List Nat) (env0 : Env) : Prop := ∀ s o d env, body s = some o → P d → G O s env → St TC env0 env → (∀ i ∈ o.tc, i ∈ TC) → ∃ out env', step d env = some (out, env') ∧ γO O o out env' ∧ St o.tc env env'
theorem for_stable (hg : ∀ s env j, ok s = true → G O s env → St TC env0 env → g j env = some ds[j]?) (ht : ∀ d ∈ ds, P d) (hb : TurnOk O body step P TC env0) {s : AEnv} {o : AO} (h1 : ok s = true) (h2 : body s = some o) (h3 : joinO (some s) (joinO o.nx o.ct) = some s) (htc : ∀ i ∈ o.tc, i ∈ TC) :
    ∀ (r pre : List D) (m : Nat) (env : Env), ds = pre ++ r → r.length ≤ m → G O s env → St TC env0 env → ∃ out env', forLoop g step m pre.length env = some (out, env') ∧ γF O ⟨s, o.bk, o.rt, o.tc⟩ out env' ∧ St o.tc env env' := by
  intro r
  induction r with
  | nil =>
    intro pre m env hp hm hG hS
    rw [List.append_nil] at hp
    subst hp
    have e : g ds.length env = some none := by rw [hg s env _ h1 hG hS, List.getElem?_eq_none (Nat.le_refl _)]
    exact ⟨.nx, env, by unfold forLoop; rw [e], .inl hG, St.refl _ _⟩
  | cons d r ih =>
    intro pre m env hp hm hG hS
    have e : g pre.length env = some (some d) := by rw [hg s env _ h1 hG hS, hp]; simp
    have hd : P d := ht d (by rw [hp]; simp)
    obtain ⟨out, env1, b1, b2, b3⟩ := hb s o d env h2 hd hG hS htc
    cases m with
    | zero => simp at hm
    | succ m =>
      have hS1 : St TC env0 env1 := (hS.trans b3).mono fun i hi => (List.mem_append.mp hi).elim id (htc i)
      have nxt : GO O (joinO o.nx o.ct) env1 → ∃ out env', forLoop g step m (pre.length + 1) env1 = some (out, env') ∧ γF O ⟨s, o.bk, o.rt, o.tc⟩ out env' ∧ St o.tc env env' := fun q => by
        have q2 : GO O (joinO (some s) (joinO o.nx o.ct)) env1 := joinO_ok (.inr q)
        rw [h3] at q2
        have := ih (pre ++ [d]) m env1 (by rw [hp]; simp) (by simpa using hm) (GO.some.mp q2) hS1
        rw [List.length_append] at this
        obtain ⟨out, env2, c1, c2, c3⟩ := this
        exact ⟨out, env2, c1, c2, (b3.trans c3).mono fun i hi => (List.mem_append.mp hi).elim id id⟩
      cases out with
      | nx =>
        obtain ⟨out, env2, c1, c2, c3⟩ := nxt (joinO_ok (.inl b2))
        exact ⟨out, env2, by unfold forLoop; rw [e]; simp only; rw [b1]; exact c1, c2, c3⟩
      | ct =>
        obtain ⟨out, env2, c1, c2, c3⟩ := nxt (joinO_ok (.inr b2))
        exact ⟨out, env2, by unfold forLoop; rw [e]; simp only; rw [b1]; exact c1, c2, c3⟩
      | bk => exact ⟨.nx, env1, by unfold forLoop; rw [e]; simp only; rw [b1], .inr b2, b3⟩
      | ret u => exact ⟨.ret u, env1, by unfold forLoop; rw [e]; simp only; rw [b1], b2, b3⟩
theorem for_ok (hg : ∀ s env j, ok s = true → G O s env → St TC env0 env → g j env = some ds[j]?) (ht : ∀ d ∈ ds, P d) (hb : TurnOk O body step P TC env0) :
    ∀ (n : Nat) (s : AEnv) (R : AF), aFor ok body n s = some R → (∀ i ∈ R.tc, i ∈ TC) → ∀ (r pre : List D) (m : Nat) (env : Env), ds = pre ++ r → r.length ≤ n → r.length ≤ m → G O s env → St TC env0 env → ∃ out env', forLoop g step m pre.length env = some (out, env') ∧ γF O R out env' ∧ St R.tc env env'
  | 0, s, R, h, htc, r, pre, m, env, hp, hn, hm, hG, hS => by
    unfold aFor at h
    split at h
    · rename_i h1
      cases h
      cases r with
      | cons _ _ => simp at hn
      | nil =>
        rw [List.append_nil] at hp
        subst hp
        have e : g ds.length env = some none := by rw [hg s env _ h1 hG hS, List.getElem?_eq_none (Nat.le_refl _)]
        exact ⟨.nx, env, by unfold forLoop; rw [e], .inl hG, St.refl _ _⟩
    · cases h
  | n + 1, s, R, h, htc, r, pre, m, env, hp, hn, hm, hG, hS => by
    unfold aFor at h
    split at h
    · rename_i h1
      split at h
      · rename_i o h2
        split at h
        · rename_i s' h3
          split at h
          · rename_i c
            subst c
            cases h
            exact for_stable hg ht hb h1 h2 h3 htc r pre m env hp hm hG hS
          · split at h
            · rename_i R1 h4
              obtain ⟨rt, h5, h6⟩ := Option.map_eq_some_iff.mp h
              cases h6
              have lift : ∀ {out : Out} {env' : Env}, γF O R1 out env' → γF O ⟨R1.fin, joinO o.bk R1.bk, rt, o.tc ++ R1.tc⟩ out env' := fun {out env'} q => by
                cases out with
                | nx => exact q.imp id fun q => joinO_ok (.inr q)
                | ret u => exact joinR_ok h5 (.inr q)
                | bk => exact q
                | ct => exact q
              have ht1 : ∀ i ∈ R1.tc, i ∈ TC := fun i hi => htc i (List.mem_append_right _ hi)
              have ht2 : ∀ i ∈ o.tc, i ∈ TC := fun i hi => htc i (List.mem_append_left _ hi)
              cases r with
              | nil =>
                rw [List.append_nil] at hp
                subst hp
                have q2 : GO O (joinO (some s) (joinO o.nx o.ct)) env := joinO_ok (.inl (GO.some.mpr hG))
                rw [h3] at q2
                obtain ⟨out, env', c1, c2, c3⟩ := for_ok hg ht hb n s' R1 h4 ht1 [] ds m env (by simp) (Nat.zero_le _) (Nat.zero_le _) (GO.some.mp q2) hS
                exact ⟨out, env', c1, lift c2, c3.mono fun i hi => List.mem_append_right _ hi⟩
              | cons d r =>
                have e : g pre.length env = some (some d) := by rw [hg s env _ h1 hG hS, hp]; simp
                have hd : P d := ht d (by rw [hp]; simp)
                obtain ⟨out, env1, b1, b2, b3⟩ := hb s o d env h2 hd hG hS ht2
                cases m with
                | zero => simp at hm
                | succ m =>
                  have hS1 : St TC env0 env1 := (hS.trans b3).mono fun i hi => (List.mem_append.mp hi).elim id (ht2 i)
                  have nxt : GO O (joinO o.nx o.ct) env1 → ∃ out env', forLoop g step m (pre.length + 1) env1 = some (out, env') ∧ γF O ⟨R1.fin, joinO o.bk R1.bk, rt, o.tc ++ R1.tc⟩ out env' ∧ St (o.tc ++ R1.tc) env env' := fun q => by
                    have q2 : GO O (joinO (some s) (joinO o.nx o.ct)) env1 := joinO_ok (.inr q)
                    rw [h3] at q2
                    have := for_ok hg ht hb n s' R1 h4 ht1 r (pre ++ [d]) m env1 (by rw [hp]; simp) (by simpa using hn) (by simpa using hm) (GO.some.mp q2) hS1
                    rw [List.length_append] at this
                    obtain ⟨out, env2, c1, c2, c3⟩ := this
                    exact ⟨out, env2, c1, lift c2, b3.trans c3⟩
                  have bl : St (o.tc ++ R1.tc) env env1 := b3.mono fun i hi => List.mem_append_left _ hi
                  cases out with
                  | nx =>
                    obtain ⟨out, env2, c1, c2, c3⟩ := nxt (joinO_ok (.inl b2))
                    exact ⟨out, env2, by unfold forLoop; rw [e]; simp only; rw [b1]; exact c1, c2, c3⟩
                  | ct =>
                    obtain ⟨out, env2, c1, c2, c3⟩ := nxt (joinO_ok (.inr b2))
                    exact ⟨out, env2, by unfold forLoop; rw [e]; simp only; rw [b1]; exact c1, c2, c3⟩
                  | bk => exact ⟨.nx, env1, by unfold forLoop; rw [e]; simp only; rw [b1], .inr (joinO_ok (.inl b2)), bl⟩
                  | ret u => exact ⟨.ret u, env1, by unfold forLoop; rw [e]; simp only; rw [b1], joinR_ok h5 (.inl b2), bl⟩
            · cases h
        · cases h
      · cases h
    · cases h
end
/-! ### a comprehension's turns -/
structure AC where
  a : AV
  ae : AEnv
  all : Bool
  tc : List Nat
def aComp (ok : AEnv → Bool) (body : AEnv → Option AC) : Nat → AEnv → Option AC
  | 0, s => if ok s = true then some ⟨.d .nil, s, true, []⟩ else none
  | n + 1, s => if ok s = true then (match body s with
    | some o => if joinE s o.ae = s then some ⟨o.a, s, o.all, o.tc⟩ else (match aComp ok body n (joinE s o.ae) with
        | some r => (AV.join o.a r.a).map fun a => ⟨a, r.ae, o.all && r.all, o.tc ++ r.tc⟩
        | none => none)
    | none => none) else none
section
variable {ok : AEnv → Bool} {body : AEnv → Option AC} {g : Nat → Env → Option (Option D)} {step : D → Env → Option (Option OT × Env)} {P : D → Prop} {ds : List D} {TC : List Nat} {env0 : Env}
def StepOk (O : Opq) (body : AEnv → Option AC) (step : D → Env → Option (Option OT × Env)) (P : D → Prop) (TC : List Nat) (env0 : Env) : Prop := ∀ s o d env, body s = some o → P d → G O s env → St TC env0 env → (∀ i ∈ o.tc, i ∈ TC) → ∃ x env', step d env = some (x, env') ∧ (∀ y, x = some y → γ O o.a y) ∧ (o.all = true → ∃ y, x = some y) ∧ G O o.ae env' ∧ St o.tc env env'
def CP (O : Opq) (R : AC) (r : List D) (acc ts : List OT) : Prop := ∃ us, ts = acc ++ us ∧ us.length ≤ r.length ∧ (R.all = true → us.length = r.length) ∧ ∀ y ∈ us, γ O R.a y
theorem comp_stable (hg : ∀ s env j, ok s = true → G O s env → St TC env0 env → g j env = some ds[j]?) (ht : ∀ d ∈ ds, P d) (hb : StepOk O body step P TC env0) {s : AEnv} {o : AC} (h1 : ok s = true) (h2 : body s = some o) (h3 : joinE s o.ae = s) (htc : ∀ i ∈ o.tc, i ∈ TC) :
    ∀ (r pre : List D) (m : Nat) (acc : List OT) (env : Env), ds = pre ++ r → r.length ≤ m → acc.length + r.length ≤ sizeLine → G O s env → St TC env0 env → ∃ ts env', compLoop g step m pre.length acc env = some (ts, env') ∧ CP O ⟨o.a, s, o.all, o.tc⟩ r acc ts ∧ G O s env' ∧ St o.tc env env' := by
  intro r
  induction r with
  | nil =>
    intro pre m acc env hp hm hz hG hS
    rw [List.append_nil] at hp
    subst hp
    have e : g ds.length env = some none := by rw [hg s env _ h1 hG hS, List.getElem?_eq_none (Nat.le_refl _)]
    exact ⟨acc, env, by unfold compLoop; rw [e], ⟨[], by simp, Nat.le_refl _, fun _ => rfl, fun y hy => nomatch hy⟩, hG, St.refl _ _⟩
  | cons d r ih =>
    intro pre m acc env hp hm hz hG hS
    have e : g pre.length env = some (some d) := by rw [hg s env _ h1 hG hS, hp]; simp
    have hd : P d := ht d (by rw [hp]; simp)
    obtain ⟨x, env1, b1, b2, b3, b4, b5⟩ := hb s o d env h2 hd hG hS htc
    cases m with
    | zero => simp at hm
    | succ m =>
      rw [List.length_cons] at hz
      have hS1 : St TC env0 env1 := (hS.trans b5).mono fun i hi => (List.mem_append.mp hi).elim id (htc i)
      have g1 : G O s env1 := by have := joinE_ok (a := s) (b := o.ae) (.inr b4); rw [h3] at this; exact this
      cases x with
      | none =>
        have := ih (pre ++ [d]) m acc env1 (by rw [hp]; simp) (by simpa using hm) (by omega) g1 hS1
        rw [List.length_append] at this
        obtain ⟨ts, env2, c1, ⟨us, d1, d2, d3, d4⟩, c3, c4⟩ := this
        refine ⟨ts, env2, by unfold compLoop; rw [e]; simp only; rw [b1]; exact c1, ⟨us, d1, by rw [List.length_cons]; omega, fun z => ?_, d4⟩, c3, (b5.trans c4).mono fun i hi => (List.mem_append.mp hi).elim id id⟩
        obtain ⟨y, hy⟩ := b3 z
        cases hy
      | some y =>
        have := ih (pre ++ [d]) m (acc ++ [y]) env1 (by rw [hp]; simp) (by simpa using hm) (by rw [List.length_append, List.length_singleton]; omega) g1 hS1
        rw [List.length_append] at this
        obtain ⟨ts, env2, c1, ⟨us, d1, d2, d3, d4⟩, c3, c4⟩ := this
        refine ⟨ts, env2, by unfold compLoop; rw [e]; simp only; rw [b1]; simp only; rw [if_pos (by omega)]; exact c1, ⟨y :: us, by rw [d1]; simp, by simpa using d2, fun z => by rw [List.length_cons, List.length_cons, d3 z], fun w hw => ?_⟩, c3, (b5.trans c4).mono fun i hi => (List.mem_append.mp hi).elim id id⟩
        rcases List.mem_cons.mp hw with rfl | hw
        · exact b2 _ rfl
        · exact d4 w hw
theorem compA_ok (hg : ∀ s env j, ok s = true → G O s env → St TC env0 env → g j env = some ds[j]?) (ht : ∀ d ∈ ds, P d) (hb : StepOk O body step P TC env0) :
    ∀ (n : Nat) (s : AEnv) (R : AC), aComp ok body n s = some R → (∀ i ∈ R.tc, i ∈ TC) → ∀ (r pre : List D) (m : Nat) (acc : List OT) (env : Env), ds = pre ++ r → r.length ≤ n → r.length ≤ m → acc.length + r.length ≤ sizeLine → G O s env → St TC env0 env → ∃ ts env', compLoop g step m pre.length acc env = some (ts, env') ∧ CP O R r acc ts ∧ G O R.ae env' ∧ St R.tc env env'
  | 0, s, R, h, htc, r, pre, m, acc, env, hp, hn, hm, hz, hG, hS => by
    unfold aComp at h
    split at h
    · rename_i h1
      cases h
      cases r with
      | cons _ _ => simp at hn
      | nil =>
        rw [List.append_nil] at hp
        subst hp
        have e : g ds.length env = some none := by rw [hg s env _ h1 hG hS, List.getElem?_eq_none (Nat.le_refl _)]
        exact ⟨acc, env, by unfold compLoop; rw [e], ⟨[], by simp, Nat.le_refl _, fun _ => rfl, fun y hy => nomatch hy⟩, hG, St.refl _ _⟩
    · cases h
  | n + 1, s, R, h, htc, r, pre, m, acc, env, hp, hn, hm, hz, hG, hS => by
    unfold aComp at h
    split at h
    · rename_i h1
      split at h
      · rename_i o h2
        split at h
        · rename_i c
          cases h
          exact comp_stable hg ht hb h1 h2 c htc r pre m acc env hp hm hz hG hS
        · split at h
          · rename_i R1 h4
            obtain ⟨a, h5, h6⟩ := Option.map_eq_some_iff.mp h
            cases h6
            have ht1 : ∀ i ∈ R1.tc, i ∈ TC := fun i hi => htc i (List.mem_append_right _ hi)
            have ht2 : ∀ i ∈ o.tc, i ∈ TC := fun i hi => htc i (List.mem_append_left _ hi)
            cases r with
            | nil =>
              rw [List.append_nil] at hp
              subst hp
              obtain ⟨ts, env', c1, ⟨us, d1, d2, d3, d4⟩, c3, c4⟩ := compA_ok hg ht hb n _ R1 h4 ht1 [] ds m acc env (by simp) (Nat.zero_le _) (Nat.zero_le _) hz (joinE_ok (.inl hG)) hS
              exact ⟨ts, env', c1, ⟨us, d1, d2, fun z => d3 (Bool.and_eq_true_iff.mp z).2, fun y hy => AV.join_ok h5 (.inr (d4 y hy))⟩, c3, c4.mono fun i hi => List.mem_append_right _ hi⟩
            | cons d r =>
              have e : g pre.length env = some (some d) := by rw [hg s env _ h1 hG hS, hp]; simp
              have hd : P d := ht d (by rw [hp]; simp)
              obtain ⟨x, env1, b1, b2, b3, b4, b5⟩ := hb s o d env h2 hd hG hS ht2
              cases m with
              | zero => simp at hm
              | succ m =>
                rw [List.length_cons] at hz
                have hS1 : St TC env0 env1 := (hS.trans b5).mono fun i hi => (List.mem_append.mp hi).elim id (ht2 i)
                have g1 := joinE_ok (a := s) (b := o.ae) (.inr b4)
                cases x with
                | none =>
                  have := compA_ok hg ht hb n _ R1 h4 ht1 r (pre ++ [d]) m acc env1 (by rw [hp]; simp) (by simpa using hn) (by simpa using hm) (by omega) g1 hS1
                  rw [List.length_append] at this
                  obtain ⟨ts, env2, c1, ⟨us, d1, d2, d3, d4⟩, c3, c4⟩ := this
                  refine ⟨ts, env2, by unfold compLoop; rw [e]; simp only; rw [b1]; exact c1, ⟨us, d1, by rw [List.length_cons]; omega, fun z => ?_, fun y hy => AV.join_ok h5 (.inr (d4 y hy))⟩, c3, b5.trans c4⟩
                  obtain ⟨y, hy⟩ := b3 (Bool.and_eq_true_iff.mp z).1
                  cases hy
                | some y =>
                  have := compA_ok hg ht hb n _ R1 h4 ht1 r (pre ++ [d]) m (acc ++ [y]) env1 (by rw [hp]; simp) (by simpa using hn) (by simpa using hm) (by rw [List.length_append, List.length_singleton]; omega) g1 hS1
                  rw [List.length_append] at this
                  obtain ⟨ts, env2, c1, ⟨us, d1, d2, d3, d4⟩, c3, c4⟩ := this
                  refine ⟨ts, env2, by unfold compLoop; rw [e]; simp only; rw [b1]; simp only; rw [if_pos (by omega)]; exact c1, ⟨y :: us, by rw [d1]; simp, by simpa using d2, fun z => by rw [List.length_cons, List.length_cons, d3 (Bool.and_eq_true_iff.mp z).2], fun w hw => ?_⟩, c3, b5.trans c4⟩
                  rcases List.mem_cons.mp hw with rfl | hw
                  · exact AV.join_ok h5 (.inl (b2 _ rfl))
                  · exact AV.join_ok h5 (.inr (d4 w hw))
          · cases h
      · cases h
    · cases h
end
end
end A
end PyI

namespace PyI
open PySem
namespace A
structure Rs where
  ar : AR
  ae : AEnv
  t : Option AEnv
  f : Option AEnv
  tc : List Nat
def Rs.of (ar : AR) (ae : AEnv) (tc : List Nat) : Rs := ⟨ar, ae, some ae, some ae, tc⟩
def isB : AR → Bool
  | .own (.d t) _ => isBoolT t
  | _ => false
def boolAR : AR := .own (.d .bool) .no
def tyC : D → Option Ty
  | .none => some .none
  | .bool _ => some .bool
  | .int i => some (.int i i)
  | .str x => some (.str x)
  | _ => none
def vtag (ae : AEnv) (i : Nat) (t : Ty) : Tg := match ae.fx.find? fun p => p.1 == i with
  | some p => .lt p.2
  | none => if (seqOfT t).isSome = true then .sq i else .no
def AEnv.re (e : AEnv) (i : Nat) (s : AS) : AEnv := ⟨e.sl.set i s, e.fx⟩
def canN : Ty → Bool
  | .none => true
  | .or a b => canN a || canN b
  | _ => false
def noN : Ty → Ty
  | .none => .nil
  | .or a b => match noN a, noN b with
    | .nil, y => y
    | x, .nil => x
    | x, y => .or x y
  | t => t
def nilE : E → Option Bool
  | .op .nil .nil => some true
  | .op .tup .nil => some false
  | _ => none
def seqS (k : Bool) : AS → Option (AS × AS × Nat × Nat)
  | .v (.l t lo hi) => if k = true then some (.v (.l t lo 0), .v (.l t (max lo 1) hi), lo, hi) else none
  | .v (.d (.seq k' t lo hi)) => if k = k' then some (.v (.d (.seq k t lo 0)), .v (.d (.seq k t (max lo 1) hi)), lo, hi) else none
  | _ => none
def shpS : AS → Bool
  | .v a => match a.dat with
    | some t => shp t
    | none => false
  | _ => false
def refA (o : Op) (as : Es) (ae : AEnv) : Option Rs := match o, as with
  | .isN, .cons (.var i) .nil => (match ae.at i with
    | .v (.d t) => some ⟨boolAR, ae, if canN t = true then some (ae.re i (.v (.d .none))) else none, if noN t = .nil then none else some (ae.re i (.v (.d (noN t)))), []⟩
    | _ => none)
  | .notN, .cons (.var i) .nil => (match ae.at i with
    | .v (.d t) => some ⟨boolAR, ae, if noN t = .nil then none else some (ae.re i (.v (.d (noN t)))), if canN t = true then some (ae.re i (.v (.d .none))) else none, []⟩
    | _ => none)
  | .eq, .cons (.var i) (.cons e .nil) => (match nilE e with
    | some k => (match seqS k (ae.at i) with
      | some (a, b, lo, hi) => if shpS (ae.at i) = true then some ⟨boolAR, ae, if lo = 0 then some (ae.re i a) else none, if hi = 0 then none else some (ae.re i b), []⟩ else none
      | none => none)
    | none => none)
  | .ne, .cons (.var i) (.cons e .nil) => (match nilE e with
    | some k => (match seqS k (ae.at i) with
      | some (a, b, lo, hi) => if shpS (ae.at i) = true then some ⟨boolAR, ae, if hi = 0 then none else some (ae.re i b), if lo = 0 then some (ae.re i a) else none, []⟩ else none
      | none => none)
    | none => none)
  | _, _ => none
/-! targets -/
def repT (t : Ty) : Nat → Ty
  | 0 => .nil
  | n + 1 => .cons t (repT t n)
def unpT : Ty → Nat → Option Ty
  | .tup false ts, n => if lenT ts = n then some ts else none
  | .seq false t lo hi, n => if lo = n ∧ hi = n then some (repT t n) else none
  | .or a b, n => match unpT a n, unpT b n with
    | some x, some y => if lenT x = lenT y then some (joinL (join fl) x y) else none
    | _, _ => none
  | _, _ => none
def tsLen : Ts → Nat
  | .nil => 0
  | .cons _ ts => tsLen ts + 1
def setF (i : Nat) (a : AV) (tg : Tg) (ae : AEnv) : AEnv := match tg, a with
  | .lt j, .d t => if j ≠ i ∧ (intOf t).isSome = true then ⟨(ae.set i (.v a)).sl, (i, j) :: (ae.set i (.v a)).fx⟩ else ae.set i (.v a)
  | _, _ => ae.set i (.v a)
def tgI (tg : Tg) (d : D) (env : Env) : Prop := match tg with
  | .lt j => (match d with
    | .int i => tgOk (.lt j) (.int i) env
    | .tuple (x :: _) => tgOk (.lt j) x env
    | _ => True)
  | _ => True
/-! walks -/
structure AI where
  live : Option (Nat × Bool)
  t : Ty
  tg : Tg
  lo : Nat
  hi : Nat
  ae : AEnv
  tc : List Nat
def okS (l : Option (Nat × Bool)) (s : AEnv) : Bool := match l with
  | none => true
  | some (i, _) => match s.at i with
    | .v (.l (.d _) _ _) => true
    | _ => false
def ltOf : Tg → Tg
  | .sq j => .lt j
  | .ln j => .lt j
  | _ => .no
def wrapT (w : Bool) (t : Ty) (hi : Nat) : Ty := match w with
  | true => .tup false (.cons (.int 0 ((hi : Int) - 1)) (.cons t .nil))
  | false => t
def srcA (w : Bool) (R : Rs) : Option AI := match R.ar with
  | .own _ _ => (match R.ar.shT R.ae with
    | some p => (match seqOfT p.1 with
      | some (_, t, lo, hi) => some ⟨none, wrapT w t hi, if w = true then ltOf (sqTg p.2) else .no, lo, hi, R.ae, R.tc⟩
      | none => none)
    | none => none)
  | .al i => (match R.ae.at i with
    | .v (.l (.d t) lo hi) => some ⟨some (i, w), wrapT w t hi, if w = true then .lt i else .no, lo, hi, R.ae, R.tc⟩
    | _ => none)
def in62 (l h : Int) : Bool := decide (-(2 ^ 62) ≤ l) && decide (h < 2 ^ 62)
def rangeA (rs : List AR) (ae : AEnv) (tc : List Nat) : Option AI := match dTs rs ae with
  | some [a] => (match intOf a.1 with
    | some (l, h) => if in62 l h = true then some ⟨none, .int 0 (h - 1), (match a.2 with
      | .ln j => .lt j
      | _ => .no), l.toNat, h.toNat, ae, tc⟩ else none
    | none => none)
  | some [a, b] => (match intOf a.1, intOf b.1 with
    | some (l, h), some (l', h') => if (in62 l h && in62 l' h') = true then some ⟨none, .int l (h' - 1), .no, (l' - h).toNat, (h' - l).toNat, ae, tc⟩ else none
    | _, _ => none)
  | _ => none
def shV (a : AV) : Option (Bool × Ty × Nat × Nat) := a.sh.bind seqOfT
def zipA (a b : AV) (ae : AEnv) (tc : List Nat) : Option AI := match shV a, shV b with
  | some (k, t, lo, hi), some (k', t', lo', hi') => if k = k' then some ⟨none, .tup false (.cons t (.cons t' .nil)), .no, min lo lo', min hi hi', ae, tc⟩ else none
  | _, _ => none
def wipeA (s : AEnv) : List Nat → AEnv
  | [] => s
  | i :: r => (wipeA s r).set i .fr
def restA (e0 : AEnv) : List Nat → AEnv → AEnv
  | [], s => s
  | i :: r, s => (restA e0 r s).set i (e0.at i)
def frA (ae : AEnv) (i : Nat) : Bool := decide (i < ae.sl.length) && (match ae.at i with
  | .fr => true
  | .v (.d _) => true
  | _ => false)
def freeI (l : Option (Nat × Bool)) (own : List Nat) : Bool := match l with
  | none => true
  | some (i, _) => !own.contains i
def liveOk (l : Option (Nat × Bool)) (tc : List Nat) : Bool := match l with
  | none => true
  | some (i, _) => !tc.contains i
def safeTg (tg : Tg) (tc : List Nat) : Bool := match tg with
  | .lt j => !tc.contains j
  | _ => true
/-- a walk whose items carry a mark, if the mark stays true -/
def withTg {α : Type} (tc : α → List Nat) (tg : Tg) (f : Tg → Option α) : Option α := match f tg with
  | some R => if safeTg tg (tc R) = true then some R else f .no
  | none => f .no
def orElseE (a : Option AEnv) (b : AEnv) : AEnv := match a with
  | some e => e
  | none => b
mutual
def aE (Δ : ACx) : E → AEnv → Option Rs
  | .var i, ae => (match ae.at i with
    | .v (.d t) => some (.of (.own (.d t) (vtag ae i t)) ae [])
    | .v _ => some (.of (.al i) ae [])
    | _ => none)
  | .c d, ae => (tyC d).map fun t => .of (.own (.d t) .no) ae []
  | .op o as, ae => (match refA o as ae with
    | some R => some R
    | none => (match aEs Δ as ae with
      | some (rs, ae1, tc) => (oA o rs ae1).map fun p => .of p.1 p.2 tc
      | none => none))
  | .and a b, ae => (match aE Δ a ae with
    | some R1 => if isB R1.ar = true then (match R1.t with
      | none => some ⟨boolAR, orElseE R1.f R1.ae, none, R1.f, R1.tc⟩
      | some e1 => (match aE Δ b e1 with
        | some R2 => if isB R2.ar = true then some ⟨boolAR, orElseE (joinO (some R2.ae) R1.f) R2.ae, R2.t, joinO R1.f R2.f, R1.tc ++ R2.tc⟩ else none
        | none => none)) else none
    | none => none)
  | .or a b, ae => (match aE Δ a ae with
    | some R1 => if isB R1.ar = true then (match R1.f with
      | none => some ⟨boolAR, orElseE R1.t R1.ae, R1.t, none, R1.tc⟩
      | some e1 => (match aE Δ b e1 with
        | some R2 => if isB R2.ar = true then some ⟨boolAR, orElseE (joinO (some R2.ae) R1.t) R2.ae, joinO R1.t R2.t, R2.f, R1.tc ++ R2.tc⟩ else none
        | none => none)) else none
    | none => none)
  | .not a, ae => (match aE Δ a ae with
    | some R => if isB R.ar = true then some ⟨boolAR, R.ae, R.f, R.t, R.tc⟩ else none
    | none => none)
  | .ite c a b, ae => (match aE Δ c ae with
    | some R => if isB R.ar = true then (match R.t, R.f with
      | some e1, some e2 => (match aE Δ a e1, aE Δ b e2 with
        | some R1, some R2 => (match R1.ar, R2.ar with
          | .own x _, .own y _ => (AV.join x y).map fun z => .of (.own z .no) (joinE R1.ae R2.ae) (R.tc ++ (R1.tc ++ R2.tc))
          | _, _ => none)
        | _, _ => none)
      | some e1, none => (match aE Δ a e1 with
        | some R1 => some ⟨R1.ar, R1.ae, R1.t, R1.f, R.tc ++ R1.tc⟩
        | none => none)
      | none, some e2 => (match aE Δ b e2 with
        | some R1 => some ⟨R1.ar, R1.ae, R1.t, R1.f, R.tc ++ R1.tc⟩
        | none => none)
      | none, none => none) else none
    | none => none)
  | .chain o p a b c, ae => (match aE Δ a ae with
    | some Ra => (match aE Δ b Ra.ae with
      | some Rb => (match aE Δ c Rb.ae with
        | some Rc => if (isFlat o && isFlat p) = true then (match dTs [Ra.ar.off Rb.tc, Rb.ar] Rb.ae, dTs [Rb.ar.off Rc.tc, Rc.ar] Rc.ae with
          | some ps, some qs => (match flA o ps, flA p qs with
            | some (t, _), some (u, _) => if (isBoolT t && isBoolT u) = true then some (.of boolAR (joinE Rb.ae Rc.ae) (Ra.tc ++ (Rb.tc ++ Rc.tc))) else none
            | _, _ => none)
          | _, _ => none) else none
        | none => none)
      | none => none)
    | none => none)
  | .sl a lo hi, ae => (match aE Δ a ae with
    | some R => (match aP Δ lo R.ae with
      | some (l, e2, tc2) => (match aP Δ hi e2 with
        | some (h, e3, tc3) => (slA ((R.ar.off tc2).off tc3) l h e3).map fun ar => .of ar e3 (R.tc ++ (tc2 ++ tc3))
        | none => none)
      | none => none)
    | none => none)
  | .meth m (.var v) as, ae => (match ae.at v with
    | .v (.l _ _ _) => (match aEs Δ as ae with
      | some (rs, e2, tc) => (mtA m (.al v) rs e2).map fun p => .of p.1 p.2.1 (tc ++ p.2.2)
      | none => none)
    | _ => none)
  | .meth _ _ _, _ => none
  | .call f as kw perm, ae => (match aEs Δ as ae with
    | some (rs, e1, tc1) => (match aEs Δ kw e1 with
      | some (ks, e2, tc2) => if nodupB perm = true then (match pick (rs.map (AR.off tc2) ++ ks) perm with
        | some qs => (callA Δ f qs e2).map fun p => .of p.1 p.2.1 (tc1 ++ (tc2 ++ p.2.2))
        | none => none) else none
      | none => none)
    | none => none)
  | .comp elt t it cond own, ae => (match aIt Δ it ae with
    | some I => if ((own.map (·.2)).all (frA I.ae) && (freeI I.live (own.map (·.2)) && decide (I.hi ≤ bigL))) = true then (match withTg AC.tc I.tg fun tg => aComp (okS I.live) (fun s => match aT Δ t (.d I.t) tg (wipeA s (own.map (·.2))) with
        | some (s2, tc1) => (match aC Δ cond s2 with
          | some (et, ef, tc2, al) => (match et with
            | none => (match ef with
              | some e => some ⟨.d .nil, e, false, own.map (·.2) ++ (tc1 ++ tc2)⟩
              | none => none)
            | some s3 => (match aE Δ elt s3 with
              | some R => (match R.ar.takeT R.ae with
                | some (a, s4) => some ⟨a, orElseE (joinO (some s4) ef) s4, al, own.map (·.2) ++ (tc1 ++ (tc2 ++ R.tc))⟩
                | none => none)
              | none => none))
          | none => none)
        | none => none) I.hi I.ae with
      | some R => if liveOk I.live R.tc = true then some (.of (.own (.l R.a (if R.all = true then I.lo else 0) I.hi) .no) (restA I.ae (own.map (·.2)) R.ae) (I.tc ++ R.tc.filter fun j => !(own.map (·.2)).contains j)) else none
      | none => none) else none
    | none => none)
  | .dct _ _, _ => none
def aEs (Δ : ACx) : Es → AEnv → Option (List AR × AEnv × List Nat)
  | .nil, ae => some ([], ae, [])
  | .cons e es, ae => (match aE Δ e ae with
    | some R => (match aEs Δ es R.ae with
      | some (rs, e2, tc2) => some (R.ar.off tc2 :: rs, e2, R.tc ++ tc2)
      | none => none)
    | none => none)
def aC (Δ : ACx) : C → AEnv → Option (Option AEnv × Option AEnv × List Nat × Bool)
  | .non, ae => some (some ae, none, [], true)
  | .some e, ae => (match aE Δ e ae with
    | some R => if isB R.ar = true then some (R.t, R.f, R.tc, false) else none
    | none => none)
def aP (Δ : ACx) : C → AEnv → Option (Option (Int × Int) × AEnv × List Nat)
  | .non, ae => some (none, ae, [])
  | .some e, ae => (match aE Δ e ae with
    | some R => (match R.ar with
      | .own (.d t) _ => (intOf t).map fun p => (some p, R.ae, R.tc)
      | _ => none)
    | none => none)
def aIt (Δ : ACx) : It → AEnv → Option AI
  | .seq e, ae => (match aE Δ e ae with
    | some R => srcA false R
    | none => none)
  | .enum e, ae => (match aE Δ e ae with
    | some R => srcA true R
    | none => none)
  | .range as, ae => (match aEs Δ as ae with
    | some (rs, e1, tc) => rangeA rs e1 tc
    | none => none)
  | .zip a b, ae => (match aE Δ a ae with
    | some Ra => (match Ra.ar.takeT Ra.ae with
      | some (va, e2) => (match aE Δ b e2 with
        | some Rb => (match Rb.ar.takeT Rb.ae with
          | some (vb, e4) => zipA va vb e4 (Ra.tc ++ Rb.tc)
          | none => none)
        | none => none)
      | none => none)
    | none => none)
def aT (Δ : ACx) : T → AV → Tg → AEnv → Option (AEnv × List Nat)
  | .nm i, a, tg, ae => if i < ae.sl.length then some (setF i a tg ae, [i]) else none
  | .tup ts, .d T, tg, ae => (match unpT T (tsLen ts) with
    | some items => aTs Δ ts items tg ae
    | none => none)
  | .tup _, _, _, _ => none
  | .sub (.var v) i, a, _, ae => (match ae.at v with
    | .v (.l _ _ _) => (match aE Δ i ae with
      | some R => (match R.ar.dt R.ae, R.ae.at v with
        | some (ti, tg), .v (.l t lo hi) => (match intOf ti with
          | some (l, h) => if inR l h lo tg (.sq v) = true then (AV.join t a).map fun u => (R.ae.set v (.v (.l u lo hi)), R.tc ++ [v]) else none
          | none => none)
        | _, _ => none)
      | none => none)
    | _ => none)
  | .sub _ _, _, _, _ => none
def aTs (Δ : ACx) : Ts → Ty → Tg → AEnv → Option (AEnv × List Nat)
  | .nil, .nil, _, ae => some (ae, [])
  | .cons t ts, .cons a r, tg, ae => (match aT Δ t (.d a) tg ae with
    | some (e1, tc1) => (match aTs Δ ts r .no e1 with
      | some (e2, tc2) => some (e2, tc1 ++ tc2)
      | none => none)
    | none => none)
  | _, _, _, _ => none
end
end A
end PyI

namespace PyI
open PySem
namespace A
section
variable {O : Opq}
structure Pst (O : Opq) (Z : Rs) (env0 : Env) (r : R) (env : Env) : Prop where
  vr : γR O Z.ar r env
  g : G O Z.ae env
  s : St Z.tc env0 env
  vb : ∀ b, r = .own (.leaf (.bool b)) → GO O (if b = true then Z.t else Z.f) env
theorem Pst.of {ar : AR} {ae : AEnv} {tc : List Nat} {env0 env : Env} {r : PyI.R} (h1 : γR O ar r env) (h2 : G O ae env) (h3 : St tc env0 env) : Pst O (.of ar ae tc) env0 r env :=
  ⟨h1, h2, h3, fun b _ => by unfold Rs.of; cases b <;> exact ⟨_, rfl, h2⟩⟩
theorem Pst.to {R : Rs} {env0 env1 env : Env} {r : PyI.R} {tc : List Nat} (s : St tc env0 env1) (h : Pst O R env1 r env) : Pst O ⟨R.ar, R.ae, R.t, R.f, tc ++ R.tc⟩ env0 r env := ⟨h.vr, h.g, s.trans h.s, h.vb⟩
theorem isB_ok {ar : AR} {r : R} {env : Env} (h : isB ar = true) (q : γR O ar r env) : ∃ b, r = .own (.leaf (.bool b)) := by
  unfold isB at h
  split at h
  · obtain ⟨t, rfl, ⟨d, rfl, q1⟩, _⟩ := q
    obtain ⟨b, rfl⟩ := isBoolT_ok h q1
    exact ⟨b, rfl⟩
  · cases h
theorem boolAR_ok {b : Bool} {env : Env} : γR O boolAR (.own (.leaf (.bool b))) env := ⟨_, rfl, ⟨_, rfl, b, rfl⟩, trivial⟩
theorem tyC_ok {d : D} {t : Ty} (h : tyC d = some t) : has t d := by
  unfold tyC at h
  split at h
  · cases h; rfl
  · cases h; exact ⟨_, rfl⟩
  · cases h; exact ⟨_, rfl, Int.le_refl _, Int.le_refl _⟩
  · cases h; rfl
  · cases h
theorem vtag_ok {ae : AEnv} {env : Env} (g : G O ae env) {i : Nat} {t : Ty} {d : D} (h : lk env i = some (.leaf d)) (q : has t d) : tgOk (vtag ae i t) d env := by
  unfold vtag
  split
  · rename_i p hp
    have h1 := List.mem_of_find?_eq_some hp
    have h2 := List.find?_some hp
    have e : p.1 = i := by simpa using h2
    obtain ⟨n, m, q1, q2, q3⟩ := g.fx p h1
    rw [e, h] at q1
    exact ⟨n, m, Option.some.inj q1, q2, q3⟩
  · split
    · rename_i hs
      obtain ⟨⟨k, u, lo, hi⟩, e⟩ := Option.isSome_iff_exists.mp hs
      obtain ⟨xs, rfl, _⟩ := seqOfT_ok e q
      refine ⟨xs.length, lenD_sq k xs, ?_⟩
      unfold slen dO
      rw [h]
      exact lenD_sq k xs
    · exact trivial
theorem G.re {ae : AEnv} {env : Env} (g : G O ae env) {i : Nat} {s : AS} (h : γS O s (lk env i)) : G O (ae.re i s) env := by
  refine ⟨by show (ae.sl.set i s).length ≤ _; rw [List.length_set]; exact g.len, fun j => ?_, g.fx⟩
  show γS O (((ae.sl.set i s)[j]?).getD .any) _
  rw [List.getElem?_set]
  split
  · rename_i c; subst c
    split
    · exact h
    · exact trivial
  · exact g.sl j
theorem canN_ok : ∀ {t : Ty}, has t .none → canN t = true := by
  intro t
  induction t with
  | none => intro _; rfl
  | or a b iha ihb => intro h; exact Bool.or_eq_true_iff.mpr (h.imp iha ihb)
  | bool => intro h; obtain ⟨_, h⟩ := h; cases h
  | int _ _ => intro h; obtain ⟨_, h, _⟩ := h; cases h
  | str _ => intro h; cases h
  | txt => intro h; obtain ⟨_, h, _⟩ := h; cases h
  | dic => intro h; cases h
  | seq k _ _ _ => intro h; obtain ⟨_, h, _⟩ := h; cases k <;> cases h
  | tup k _ => intro h; obtain ⟨_, h, _⟩ := h; cases k <;> cases h
  | nil => intro h; exact h.elim
  | cons _ _ => intro h; exact h.elim
theorem noN_ok : ∀ {t : Ty} {d : D}, has t d → d ≠ .none → has (noN t) d := by
  intro t
  induction t with
  | none => intro d h q; exact absurd h q
  | or a b iha ihb =>
    intro d h q
    unfold noN
    split
    · rename_i e
      rcases h with h | h
      · have := iha h q; rw [e] at this; exact this.elim
      · exact ihb h q
    · rename_i e _
      rcases h with h | h
      · exact iha h q
      · have := ihb h q; rw [e] at this; exact this.elim
    · exact h.imp (fun h => iha h q) fun h => ihb h q
  | _ => intro d h _; exact h
theorem isNone_eq {d : D} : isNone d = true ↔ d = .none := by cases d <;> simp [isNone]
theorem wp_isN {Γ : Ctx} {i : Nat} {d : D} {env : Env} {Q : R → Env → Prop} (h : lk env i = some (.leaf d)) (q : Q (.own (.leaf (.bool (isNone d)))) env) : wpE Γ (.op .isN (.cons (.var i) .nil)) env Q := by
  simp only [wpE, wpEs, h]
  exact q
theorem wp_notN {Γ : Ctx} {i : Nat} {d : D} {env : Env} {Q : R → Env → Prop} (h : lk env i = some (.leaf d)) (q : Q (.own (.leaf (.bool (!isNone d)))) env) : wpE Γ (.op .notN (.cons (.var i) .nil)) env Q := by
  simp only [wpE, wpEs, h]
  exact q
theorem isN_envs {ae : AEnv} {env : Env} (g : G O ae env) {i : Nat} {t : Ty} {d : D} (h : lk env i = some (.leaf d)) (q : has t d) : GO O (if isNone d = true then (if canN t = true then some (ae.re i (.v (.d .none))) else none) else (if noN t = .nil then none else some (ae.re i (.v (.d (noN t)))))) env := by
  by_cases c : d = .none
  · subst c
    show GO O (if canN t = true then _ else _) env
    rw [if_pos (canN_ok q)]
    exact ⟨_, rfl, g.re (by rw [h]; exact ⟨_, rfl, _, rfl, rfl⟩)⟩
  · rw [if_neg fun z => c (isNone_eq.mp z)]
    have n := noN_ok q c
    rw [if_neg fun z => by rw [z] at n; exact n]
    exact ⟨_, rfl, g.re (by rw [h]; exact ⟨_, rfl, _, rfl, n⟩)⟩
/-- a sequence beside an empty one -/
theorem wp_eqnil {Γ : Ctx} {i : Nat} {e : E} {k : Bool} {env : Env} {xs : List D} {t : OT} {Q : R → Env → Prop} (he : nilE e = some k) (h : lk env i = some t) (ht : t = .leaf (sq k xs) ∨ (k = true ∧ ∃ ts, t = .nod none ts ∧ OT.dats ts = xs)) (sh : SeqAt.shaped (sq k xs) = true) (neg : Bool)
    (q : ∀ r, r = .own (.leaf (.bool (if neg = true then !xs.isEmpty else xs.isEmpty))) → Q r env) : wpE Γ (.op (if neg = true then .ne else .eq) (.cons (.var i) (.cons e .nil))) env Q := by
  have fin : EqP (sq k xs) (sq k []) fun c => Q (.own (.leaf (.bool (if neg = true then !c else c)))) env := by
    cases k with
    | true => exact EqP.nil sh (q _ rfl)
    | false => exact EqP.nilt sh (q _ rfl)
  unfold nilE at he
  split at he
  · cases he
    rcases ht with rfl | ⟨_, ts, rfl, e⟩
    · cases neg
      · simp only [wpE, wpEs, h]; exact DtP.mk fin
      · simp only [wpE, wpEs, h]; exact DtP.mk fin
    · subst e
      cases neg
      · simp only [wpE, wpEs, h]
        exact treeK_of (r := .al i []) (t := .nod none ts) (by show env.look i [] = _; unfold Env.look; rw [lk_eq h]; rfl) ⟨⟨fin⟩⟩
      · simp only [wpE, wpEs, h]
        exact treeK_of (r := .al i []) (t := .nod none ts) (by show env.look i [] = _; unfold Env.look; rw [lk_eq h]; rfl) ⟨⟨fin⟩⟩
  · cases he
    rcases ht with rfl | ⟨c, _⟩
    · cases neg
      · simp only [wpE, wpEs, h]; exact fin
      · simp only [wpE, wpEs, h]; exact fin
    · cases c
  · cases he
theorem seqS_ok {k : Bool} {s a b : AS} {lo hi : Nat} {x : Option OT} (h : seqS k s = some (a, b, lo, hi)) (sh : shpS s = true) (q : γS O s x) : ∃ t xs, x = some t ∧ (t = .leaf (sq k xs) ∨ (k = true ∧ ∃ ts, t = .nod none ts ∧ OT.dats ts = xs)) ∧ SeqAt.shaped (sq k xs) = true ∧ (xs.isEmpty = true → lo = 0 ∧ γS O a x) ∧ (xs.isEmpty = false → hi ≠ 0 ∧ γS O b x) := by
  obtain ⟨y, e, hy⟩ : ∃ y, s = .v y ∧ γS O (.v y) x := by
    cases s with
    | v y => exact ⟨y, rfl, q⟩
    | _ => cases sh
  subst e
  obtain ⟨t, rfl, hy⟩ := hy
  unfold shpS at sh
  simp only at sh
  split at sh
  · rename_i u hu
    have sp := shp_ok sh (AV.dat_ok hu hy)
    unfold seqS at h
    split at h
    · split at h
      · rename_i c
        subst c
        rename_i e
        cases e
        cases h
        obtain ⟨ts, rfl, q1, q2, q3⟩ := hy
        refine ⟨_, OT.dats ts, rfl, .inr ⟨rfl, ts, rfl, rfl⟩, sp, fun z => ?_, fun z => ?_⟩
        · have : ts.length = 0 := by rw [← dats_len]; simpa using z
          exact ⟨by omega, _, rfl, ts, rfl, q1, by omega, q3⟩
        · have : ts.length ≠ 0 := by rw [← dats_len]; simpa using z
          exact ⟨by omega, _, rfl, ts, rfl, by omega, q2, q3⟩
      · cases h
    · rename_i k' t' lo' hi' e
      cases e
      split at h
      · rename_i c
        subst c
        cases h
        obtain ⟨d, rfl, xs, rfl, q1, q2, q3⟩ := hy
        refine ⟨_, xs, rfl, .inl rfl, sp, fun z => ?_, fun z => ?_⟩
        · have : xs.length = 0 := by simpa using z
          exact ⟨by omega, _, rfl, _, rfl, xs, rfl, q1, by omega, q3⟩
        · have : xs.length ≠ 0 := by simpa using z
          exact ⟨by omega, _, rfl, _, rfl, xs, rfl, by omega, q2, q3⟩
      · cases h
    · cases h
  · cases sh
theorem refA_ok {Γ : Ctx} {o : Op} {as : Es} {ae : AEnv} {R : Rs} {env : Env} (h : refA o as ae = some R) (g : G O ae env) : wpE Γ (.op o as) env (Pst O R env) := by
  unfold refA at h
  split at h
  · rename_i i
    split at h
    · rename_i t ht
      cases h
      obtain ⟨y, h1, ⟨d, rfl, h2⟩, _⟩ := g.lt ht
      exact wp_isN h1 ⟨boolAR_ok, g, St.refl _ _, fun b e => by cases e; exact isN_envs g h1 h2⟩
    · cases h
  · rename_i i
    split at h
    · rename_i t ht
      cases h
      obtain ⟨y, h1, ⟨d, rfl, h2⟩, _⟩ := g.lt ht
      refine wp_notN h1 ⟨boolAR_ok, g, St.refl _ _, fun b e => ?_⟩
      cases e
      have := isN_envs g h1 h2
      cases hn : isNone d with
      | true => rw [hn] at this; exact this
      | false => rw [hn] at this; exact this
    · cases h
  · rename_i i e
    split at h
    · rename_i k hk
      split at h
      · rename_i a b lo hi hs
        split at h
        · rename_i sh
          cases h
          obtain ⟨t, xs, h1, h2, h3, h4, h5⟩ := seqS_ok hs sh (g.sl i)
          refine wp_eqnil (xs := xs) hk h1 h2 h3 false fun r hr => ?_
          subst hr
          refine ⟨boolAR_ok, g, St.refl _ _, fun b e => ?_⟩
          cases e
          cases hx : xs.isEmpty with
          | true => obtain ⟨c1, c2⟩ := h4 hx; simp only [if_pos c1, Bool.false_eq_true, if_false, if_true]; exact ⟨_, rfl, g.re c2⟩
          | false => obtain ⟨c1, c2⟩ := h5 hx; simp only [if_neg c1, Bool.false_eq_true, if_false]; exact ⟨_, rfl, g.re c2⟩
        · cases h
      · cases h
    · cases h
  · rename_i i e
    split at h
    · rename_i k hk
      split at h
      · rename_i a b lo hi hs
        split at h
        · rename_i sh
          cases h
          obtain ⟨t, xs, h1, h2, h3, h4, h5⟩ := seqS_ok hs sh (g.sl i)
          refine wp_eqnil (xs := xs) hk h1 h2 h3 true fun r hr => ?_
          subst hr
          refine ⟨boolAR_ok, g, St.refl _ _, fun b e => ?_⟩
          cases e
          cases hx : xs.isEmpty with
          | true => obtain ⟨c1, c2⟩ := h4 hx; simp only [if_pos c1, Bool.not_true, Bool.false_eq_true, if_false, if_true]; exact ⟨_, rfl, g.re c2⟩
          | false => obtain ⟨c1, c2⟩ := h5 hx; simp only [if_neg c1, Bool.not_false, if_true]; exact ⟨_, rfl, g.re c2⟩
        · cases h
      · cases h
    · cases h
  · cases h
end
end A
end PyI

namespace PyI
open PySem
namespace A
section
variable {O : Opq}
/-! ### targets -/
theorem repT_ok {t : Ty} : ∀ {n : Nat} {xs : List D}, xs.length = n → (∀ x ∈ xs, has t x) → hasL (repT t n) xs
  | 0, xs, h, _ => by cases xs with
    | nil => rfl
    | cons _ _ => cases h
  | n + 1, [], h, _ => by cases h
  | n + 1, x :: xs, h, q => ⟨x, xs, rfl, q x List.mem_cons_self, repT_ok (Nat.succ.inj h) fun y hy => q y (List.mem_cons_of_mem _ hy)⟩
theorem unpT_ok : ∀ {T : Ty} {n : Nat} {it : Ty} {d : D}, unpT T n = some it → has T d → ∃ xs, d = .tuple xs ∧ hasL it xs := by
  intro T
  induction T with
  | tup k ts _ =>
    intro n it d h q
    cases k with
    | true => cases h
    | false =>
      replace h : (if lenT ts = n then some ts else none) = some it := h
      split at h
      · cases h; obtain ⟨xs, rfl, q⟩ := q; exact ⟨xs, rfl, q⟩
      · cases h
  | seq k t lo hi _ =>
    intro n it d h q
    cases k with
    | true => cases h
    | false =>
      replace h : (if lo = n ∧ hi = n then some (repT t n) else none) = some it := h
      split at h
      · rename_i c
        cases h; obtain ⟨xs, rfl, q1, q2, q3⟩ := q; exact ⟨xs, rfl, repT_ok (by omega) q3⟩
      · cases h
  | or a b iha ihb =>
    intro n it d h q
    unfold unpT at h
    split at h
    · rename_i x y h1 h2
      split at h
      · rename_i c
        cases h
        rcases q with q | q
        · obtain ⟨xs, rfl, q2⟩ := iha h1 q; exact ⟨xs, rfl, joinL_ok (join_ok fl) c (.inl q2)⟩
        · obtain ⟨xs, rfl, q2⟩ := ihb h2 q; exact ⟨xs, rfl, joinL_ok (join_ok fl) c (.inr q2)⟩
      · cases h
    · cases h
  | _ => intro n it d h; cases h
theorem setF_ok {ae : AEnv} {env : Env} (g : G O ae env) {i : Nat} {a : AV} {tg : Tg} {x : OT} (hi : i < ae.sl.length) (q : γ O a x) (ht : tgI tg x.dat env) : G O (setF i a tg ae) (env.set i (some x)) := by
  have g1 : G O (ae.set i (.v a)) (env.set i (some x)) := g.set ⟨x, rfl, q⟩
  unfold setF
  split
  · rename_i j t
    split
    · rename_i c
      obtain ⟨d, rfl, q⟩ := q
      obtain ⟨⟨l, h⟩, e⟩ := Option.isSome_iff_exists.mp c.2
      obtain ⟨n, rfl, _⟩ := intOf_ok e q
      refine ⟨g1.len, g1.sl, fun p hp => ?_⟩
      rcases List.mem_cons.mp hp with rfl | hp
      · obtain ⟨n', m, e1, e2, e3⟩ := ht
        have hl : i < env.length := Nat.lt_of_lt_of_le hi g.len
        refine ⟨n', m, ?_, ?_, e3⟩
        · rw [lk_set, if_pos ⟨rfl, hl⟩]
          show some (OT.dat (.leaf (.int n))) = _
          exact congrArg some e1
        · rw [slen_st (tc := [i]) St.set (fun z => c.1 (List.mem_singleton.mp z))]; exact e2
      · exact g1.fx p hp
    · exact g1
  · exact g1
/-! ### walks -/
def wrapD (w : Bool) (ds : List D) : List D := match w with
  | true => enumD 0 ds
  | false => ds
structure PI (O : Opq) (I : AI) (env0 : Env) (s : Src) (n : Nat) (env : Env) : Prop where
  g : G O I.ae env
  st : St I.tc env0 env
  ds : ∃ ds, n = ds.length ∧ I.lo ≤ n ∧ n ≤ I.hi ∧ (∀ d ∈ ds, has I.t d ∧ tgI I.tg d env) ∧ (match I.live with
    | none => s = .fix ds
    | some (i, w) => s = .live i w ∧ ∃ es, dO (lk env i) = some (.list es) ∧ ds = (wrapD w es))
theorem enumD_len : ∀ {ds : List D} {k : Nat}, (enumD k ds).length = ds.length
  | [], _ => rfl
  | d :: ds, k => by show (enumD (k + 1) ds).length + 1 = _; rw [enumD_len]; rfl
theorem enumD_mem : ∀ {ds : List D} {k : Nat} {x : D}, x ∈ enumD k ds → ∃ (j : Nat) (d : D), x = .tuple [.int j, d] ∧ d ∈ ds ∧ k ≤ j ∧ j < k + ds.length
  | [], _, _, h => nomatch h
  | d :: ds, k, x, h => by
    rcases List.mem_cons.mp (show x ∈ .tuple [.int k, d] :: enumD (k + 1) ds from h) with rfl | h
    · exact ⟨k, d, rfl, List.mem_cons_self, Nat.le_refl _, by rw [List.length_cons]; omega⟩
    · obtain ⟨j, e, rfl, h1, h2, h3⟩ := enumD_mem h
      exact ⟨j, e, rfl, List.mem_cons_of_mem _ h1, by omega, by rw [List.length_cons]; omega⟩
theorem wrap_ok {w : Bool} {t : Ty} {hi : Nat} {ds : List D} {tg : Tg} {env : Env} (h : ∀ d ∈ ds, has t d) (hl : ds.length ≤ hi) (ht : w = true → ∀ j, tg = .lt j → slen env j = some ds.length) (hn : w = false → tg = .no) : ∀ d ∈ (wrapD w ds), has (wrapT w t hi) d ∧ tgI tg d env := by
  intro d hd
  cases w with
  | false => rw [hn rfl]; exact ⟨h d hd, trivial⟩
  | true =>
    obtain ⟨j, e, rfl, h1, h2, h3⟩ := enumD_mem hd
    refine ⟨⟨_, rfl, _, _, rfl, ⟨_, rfl, by omega, by omega⟩, _, _, rfl, h e h1, rfl⟩, ?_⟩
    cases tg with
    | lt i => exact ⟨j, ds.length, rfl, ht rfl i rfl, by omega⟩
    | _ => exact trivial
theorem len_wrap {w : Bool} {ds : List D} : (wrapD w ds).length = ds.length := by
  cases w with
  | false => rfl
  | true => exact enumD_len
theorem srcK_leaf {w : Bool} {k : Bool} {xs : List D} {env : Env} {K : Src → Nat → Prop} (h : K (.fix (wrapD w xs)) xs.length) : srcK w (.own (.leaf (sq k xs))) env K := by cases k <;> exact h
theorem srcA_ok {w : Bool} {Z : Rs} {I : AI} {env0 env : Env} {r : R} {K : Src → Nat → Prop} (h : srcA w Z = some I) (p : Pst O Z env0 r env) (k : ∀ s n, PI O I env0 s n env → K s n) : srcK w r env K := by
  unfold srcA at h
  have pr := p.vr
  split at h
  · rename_i a gg ha
    rw [ha] at pr
    split at h
    · rename_i T hT
      split at h
      · rename_i kk t lo hi hs
        cases h
        obtain ⟨x, rfl, hx, hg⟩ := pr
        obtain ⟨av, e1, e2⟩ := Option.bind_eq_some_iff.mp hT
        obtain ⟨u, e3, e4⟩ := Option.map_eq_some_iff.mp e2
        rw [ha] at e1
        cases e1
        cases e4
        have main : ∀ xs : List D, lo ≤ xs.length → xs.length ≤ hi → (∀ x ∈ xs, has t x) → lenD x.dat = some xs.length → K (.fix (wrapD w xs)) xs.length := fun xs c1 c2 c3 c4 => by
          refine k _ _ ⟨p.g, p.s, _, len_wrap.symm, c1, c2, wrap_ok c3 c2 (fun hw j hj => ?_) (fun hw => ?_), rfl⟩
          · have hj : ltOf (sqTg (Z.ar.tag Z.ae)) = .lt j := by rw [hw] at hj; exact hj
            rw [ha] at hj
            have hj : ltOf (sqTg gg) = .lt j := hj
            cases gg with
            | sq i =>
              cases hj
              obtain ⟨m, g1, g2⟩ := hg
              rw [c4] at g1
              cases g1
              exact g2
            | _ => cases hj
          · rw [hw]; rfl
        cases a with
        | d y =>
          cases e3
          obtain ⟨d, rfl, hy⟩ := hx
          obtain ⟨xs, rfl, c1, c2, c3⟩ := seqOfT_ok hs hy
          exact srcK_leaf (main xs c1 c2 c3 (lenD_sq kk xs))
        | l y lo' hi' =>
          obtain ⟨ts, rfl, q1, q2, q3⟩ := hx
          cases y with
          | d y =>
            cases e3
            cases hs
            obtain ⟨ds, rfl, q4⟩ := leaves_of q3
            rw [List.length_map] at q1 q2
            exact LvP.of (main ds q1 q2 q4 (lenD_map ds))
          | _ => cases e3
        | o n => cases e3
      · cases h
    · cases h
  · rename_i i ha
    rw [ha] at pr
    cases pr
    split at h
    · rename_i t lo hi hs
      cases h
      obtain ⟨x, h1, ⟨ts, rfl, q1, q2, q3⟩, hl⟩ := p.g.lt hs
      obtain ⟨ds, rfl, q4⟩ := leaves_of q3
      rw [List.length_map] at q1 q2
      unfold srcK
      simp only
      rw [h1]
      simp only
      rw [List.length_map]
      refine k _ _ ⟨p.g, p.s, _, len_wrap.symm, q1, q2, wrap_ok q4 q2 (fun hw j hj => ?_) (fun hw => ?_), rfl, ds, ?_, rfl⟩
      · subst hw
        have hj : Tg.lt i = .lt j := hj
        cases hj
        rw [slen_l h1, List.length_map]
      · subst hw; rfl
      · rw [h1]
        show some (PyData.list (OT.dats (ds.map .leaf))) = _
        rw [dats_leafs]
    · cases h
theorem rangeD_mem {lo : Int} {n : Nat} {x : D} (h : x ∈ rangeD lo n) : ∃ j : Nat, x = .int (lo + j) ∧ j < n := by
  unfold rangeD at h
  obtain ⟨j, hj, rfl⟩ := List.mem_map.mp h
  exact ⟨j, rfl, List.mem_range.mp hj⟩
theorem rangeD_len {lo : Int} {n : Nat} : (rangeD lo n).length = n := by unfold rangeD; simp
theorem rangeA_ok {rs : List AR} {ae : AEnv} {tc : List Nat} {I : AI} {env0 env : Env} {ps : List R} {K : Src → Nat → Prop} (h : rangeA rs ae tc = some I) (g : G O ae env) (st : St tc env0 env) (q : F2 (fun a r => γR O a r env) rs ps) (k : ∀ s n, PI O I env0 s n env → K s n) : datsK ps env fun ds => rangeK ds K := by
  unfold rangeA at h
  split at h
  · rename_i a hd
    split at h
    · rename_i l u hi
      split at h
      · rename_i c
        cases h
        refine dats_K g hd q fun ds hds => ?_
        obtain ⟨d, rfl, q1⟩ := f1 hds
        obtain ⟨i, rfl, c1, c2⟩ := intOf_ok hi q1.1
        unfold in62 at c
        simp only [Bool.and_eq_true, decide_eq_true_eq] at c
        refine ⟨⟨by omega, by omega⟩, k _ _ ⟨g, st, _, rangeD_len.symm, by show l.toNat ≤ _; omega, by show _ ≤ u.toNat; omega, fun d hd => ?_, rfl⟩⟩
        obtain ⟨j, rfl, hj⟩ := rangeD_mem hd
        refine ⟨⟨_, rfl, by omega, by omega⟩, ?_⟩
        show tgI (match a.2 with
          | .ln j => .lt j
          | _ => .no) _ env
        have q2 := q1.2
        cases e : a.2 with
        | ln jj =>
          rw [e] at q2
          obtain ⟨m, e1, e2⟩ := q2
          cases e1
          exact ⟨j, m, by simp, e2, by omega⟩
        | _ => exact trivial
      · cases h
    · cases h
  · rename_i a b hd
    split at h
    · rename_i l u l' u' hi hi'
      split at h
      · rename_i c
        cases h
        refine dats_K g hd q fun ds hds => ?_
        obtain ⟨d, e, rfl, q1, q2⟩ := f2 hds
        obtain ⟨i, rfl, c1, c2⟩ := intOf_ok hi q1.1
        obtain ⟨j, rfl, c3, c4⟩ := intOf_ok hi' q2.1
        unfold in62 at c
        simp only [Bool.and_eq_true, decide_eq_true_eq] at c
        refine ⟨⟨⟨by omega, by omega⟩, ⟨by omega, by omega⟩⟩, k _ _ ⟨g, st, _, rangeD_len.symm, by show (l' - u).toNat ≤ _; omega, by show _ ≤ (u' - l).toNat; omega, fun d hd => ?_, rfl⟩⟩
        obtain ⟨x, rfl, hj⟩ := rangeD_mem hd
        exact ⟨⟨_, rfl, by omega, by omega⟩, trivial⟩
      · cases h
    · cases h
  · cases h
theorem zipD_mem : ∀ {xs ys : List D} {x : D}, x ∈ zipD xs ys → ∃ a b, x = .tuple [a, b] ∧ a ∈ xs ∧ b ∈ ys
  | [], _, _, h => by simp [zipD] at h
  | _ :: _, [], _, h => by simp [zipD] at h
  | a :: xs, b :: ys, x, h => by
    rcases List.mem_cons.mp (show x ∈ .tuple [a, b] :: zipD xs ys from h) with rfl | h
    · exact ⟨a, b, rfl, List.mem_cons_self, List.mem_cons_self⟩
    · obtain ⟨c, d, rfl, h1, h2⟩ := zipD_mem h
      exact ⟨c, d, rfl, List.mem_cons_of_mem _ h1, List.mem_cons_of_mem _ h2⟩
theorem zipD_len : ∀ {xs ys : List D}, (zipD xs ys).length = min xs.length ys.length
  | [], _ => by simp [zipD]
  | _ :: _, [] => by simp [zipD]
  | a :: xs, b :: ys => by have := zipD_len (xs := xs) (ys := ys); simp [zipD, this]
/-- items of a thing that may be zipped -/
theorem shV_ok {a : AV} {x : OT} {k : Bool} {t : Ty} {lo hi : Nat} (h : shV a = some (k, t, lo, hi)) (q : γ O a x) : ∃ xs : List D, lo ≤ xs.length ∧ xs.length ≤ hi ∧ (∀ y ∈ xs, has t y) ∧ (x = .leaf (sq k xs) ∨ (k = true ∧ x = .nod none (xs.map .leaf))) := by
  obtain ⟨T, h1, h2⟩ := Option.bind_eq_some_iff.mp h
  cases a with
  | d y =>
    cases h1
    obtain ⟨d, rfl, q⟩ := q
    obtain ⟨xs, rfl, c1, c2, c3⟩ := seqOfT_ok h2 q
    exact ⟨xs, c1, c2, c3, .inl rfl⟩
  | l y lo' hi' =>
    cases y with
    | d y =>
      cases h1
      cases h2
      obtain ⟨ts, rfl, c1, c2, c3⟩ := q
      obtain ⟨ds, rfl, c4⟩ := leaves_of c3
      rw [List.length_map] at c1 c2
      exact ⟨ds, c1, c2, c4, .inr ⟨rfl, rfl⟩⟩
    | _ => cases h1
  | o n => cases h1
theorem zipA_ok {a b : AV} {ae : AEnv} {tc : List Nat} {I : AI} {env0 env : Env} {x y : OT} {K : Src → Nat → Prop} (h : zipA a b ae tc = some I) (g : G O ae env) (st : St tc env0 env) (q1 : γ O a x) (q2 : γ O b y) (k : ∀ s n, PI O I env0 s n env → K s n) : zipK x y K := by
  unfold zipA at h
  split at h
  · rename_i kk t lo hi kk' t' lo' hi' h1 h2
    split at h
    · rename_i c
      subst c
      cases h
      obtain ⟨xs, a1, a2, a3, a4⟩ := shV_ok h1 q1
      obtain ⟨ys, b1, b2, b3, b4⟩ := shV_ok h2 q2
      have fin : K (.fix (zipD xs ys)) (zipD xs ys).length := by
        refine k _ _ ⟨g, st, _, rfl, by rw [zipD_len]; show min lo lo' ≤ _; omega, by rw [zipD_len]; show _ ≤ min hi hi'; omega, fun d hd => ?_, rfl⟩
        obtain ⟨u, v, rfl, c1, c2⟩ := zipD_mem hd
        exact ⟨⟨_, rfl, _, _, rfl, a3 u c1, _, _, rfl, b3 v c2, rfl⟩, trivial⟩
      cases kk with
      | false =>
        rcases a4 with rfl | ⟨z, _⟩
        · rcases b4 with rfl | ⟨z, _⟩
          · exact fin
          · cases z
        · cases z
      | true =>
        rcases a4 with rfl | ⟨_, rfl⟩
        · rcases b4 with rfl | ⟨_, rfl⟩
          · exact fin
          · exact LvP.of fin
        · rcases b4 with rfl | ⟨_, rfl⟩
          · exact LvP.of fin
          · exact LvP.of (LvP.of fin)
    · cases h
  · cases h
/-- the items that a walk gives, as long as it does not change -/
theorem get_ok {I : AI} {env0 env1 env : Env} {s : Src} {n : Nat} {ds : List D} {TC : List Nat} {st : AEnv} (h : match I.live with
    | none => s = .fix ds
    | some (i, w) => s = .live i w ∧ ∃ es, dO (lk env1 i) = some (.list es) ∧ ds = (wrapD w es)) (hl : liveOk I.live TC = true) (j : Nat) (ho : okS I.live st = true) (hG : G O st env) (hS : St TC env1 env) : s.get j env = some ds[j]? := by
  cases hI : I.live with
  | none =>
    rw [hI] at h
    simp only at h
    subst h
    rfl
  | some p =>
    obtain ⟨i, w⟩ := p
    rw [hI] at h hl ho
    simp only at h
    unfold liveOk at hl
    simp only at hl
    obtain ⟨rfl, es, h1, h2⟩ := h
    have hi : i ∉ TC := fun z => by rw [List.contains_iff_mem.mpr z] at hl; cases hl
    unfold okS at ho
    simp only at ho
    split at ho
    · rename_i t lo hi' hs
      obtain ⟨x, h3, ⟨ts, rfl, _, _, q3⟩, hl⟩ := hG.lt hs
      obtain ⟨fs, rfl, _⟩ := leaves_of q3
      have e : es = fs := by
        have := hS.eq i hi
        rw [h1, h3] at this
        have e2 : dO (some (OT.nod none (fs.map .leaf))) = some (.list fs) := by
          show some (PyData.list (OT.dats (fs.map .leaf))) = _
          rw [dats_leafs]
        rw [e2] at this
        cases this
        rfl
      subst e
      unfold Src.get
      simp only
      rw [lk_eq h3]
      simp only
      rw [List.getElem?_map]
      cases w with
      | false =>
        rw [show ds = es from h2]
        cases es[j]? <;> rfl
      | true =>
        rw [show ds = enumD 0 es from h2, PyI.enumD_get]
        cases es[j]? with
        | none => rfl
        | some d => simp [wrapAt]
    · cases ho
theorem wipe_ok {s : AEnv} {env : Env} (g : G O s env) : ∀ vs : List Nat, G O (wipeA s vs) (wipeE env vs) ∧ St vs env (wipeE env vs)
  | [] => ⟨g, St.refl _ _⟩
  | i :: r => by
    obtain ⟨h1, h2⟩ := wipe_ok g r
    exact ⟨h1.set (.inl rfl), (h2.trans St.set).mono fun j hj => by
      rcases List.mem_append.mp hj with hj | hj
      · exact List.mem_cons_of_mem _ hj
      · rw [List.mem_singleton.mp hj]; exact List.mem_cons_self⟩
theorem rest_ok {e0 s : AEnv} {env0 env : Env} (g0 : G O e0 env0) (g : G O s env) : ∀ vs : List Nat, G O (restA e0 vs s) (restore env0 vs env)
  | [] => g
  | i :: r => by
    have h1 := rest_ok g0 g r
    refine h1.set (v := env0.getD i none) ?_
    have := g0.sl i
    rw [lk_get] at this
    rw [List.getD_eq_getElem?_getD]
    exact this
theorem rest_st {env0 env : Env} {tc own : List Nat} (h : St tc env0 env) : St (tc.filter fun j => !own.contains j) env0 (restore env0 own env) := by
  obtain ⟨h1, h2, h3⟩ := restore_out2 (e0 := env0) (e := env) own
  refine ⟨h1.trans h.len, fun j hj => ?_⟩
  by_cases c : j ∈ own
  · rw [lk_get, lk_get, h3 h.len j c]
  · rw [lk_get, h2 j c, ← lk_get]
    refine h.eq j fun z => hj (List.mem_filter.mpr ⟨z, ?_⟩)
    cases hc : own.contains j with
    | true => exact absurd (List.contains_iff_mem.mp hc) c
    | false => rfl
theorem slots_ok {ae : AEnv} {env : Env} (g : G O ae env) : ∀ {vs : List Nat}, vs.all (frA ae) = true → slotsFree env vs = true
  | [], _ => rfl
  | i :: r, h => by
    rw [List.all_cons] at h
    obtain ⟨h1, h2⟩ := Bool.and_eq_true_iff.mp h
    unfold slotsFree
    rw [slots_ok g h2, Bool.and_true]
    unfold frA at h1
    obtain ⟨h3, h4⟩ := Bool.and_eq_true_iff.mp h1
    have hl : i < env.length := Nat.lt_of_lt_of_le (of_decide_eq_true h3) g.len
    have q := g.sl i
    rw [lk_get, List.getElem?_eq_getElem hl] at q
    rw [List.getElem?_eq_getElem hl]
    generalize env[i] = x at q ⊢
    have q : γS O (ae.at i) x := q
    split at h4
    · rename_i e
      rw [e] at q
      rcases q with rfl | ⟨d, rfl⟩ <;> rfl
    · rename_i t e
      rw [e] at q
      obtain ⟨y, rfl, d, rfl, _⟩ := q
      rfl
    · cases h4
theorem tgI_st {tc : List Nat} {a b : Env} (h : St tc a b) {tg : Tg} {d : D} (hs : safeTg tg tc = true) (q : tgI tg d a) : tgI tg d b := by
  cases tg with
  | lt j =>
    have hj : j ∉ tc := fun z => by
      unfold safeTg at hs
      simp only at hs
      rw [List.contains_iff_mem.mpr z] at hs
      cases hs
    have go : ∀ x, tgOk (.lt j) x a → tgOk (.lt j) x b := fun x ⟨n, m, e1, e2, e3⟩ => ⟨n, m, e1, by rw [slen_st h hj]; exact e2, e3⟩
    cases d with
    | int i => exact go _ q
    | tuple xs => cases xs with
      | nil => exact trivial
      | cons x r => exact go _ q
    | _ => exact trivial
  | _ => exact trivial
theorem withTg_ok {α : Type} {tc : α → List Nat} {tg : Tg} {f : Tg → Option α} {R : α} (h : withTg tc tg f = some R) : ∃ tg', f tg' = some R ∧ (tg' = .no ∨ tg' = tg ∧ safeTg tg (tc R) = true) := by
  unfold withTg at h
  split at h
  · rename_i R1 h1
    split at h
    · rename_i c
      cases h
      exact ⟨tg, h1, .inr ⟨rfl, c⟩⟩
    · exact ⟨.no, h, .inl rfl⟩
  · exact ⟨.no, h, .inl rfl⟩
theorem tg_in {tg tg' : Tg} {TC : List Nat} {a b : Env} {d : D} (h : tg' = .no ∨ tg' = tg ∧ safeTg tg TC = true) (st : St TC a b) (q : tgI tg d a) : tgI tg' d b := by
  rcases h with rfl | ⟨rfl, h⟩
  · exact trivial
  · exact tgI_st st h q
theorem GO_else {a : Option AEnv} {b : AEnv} {env : Env} (h : GO O a env ∨ (a = none ∧ G O b env)) : G O (orElseE a b) env := by
  rcases h with ⟨e, rfl, h⟩ | ⟨rfl, h⟩
  · exact h
  · exact h
theorem GO_some {a : AEnv} {env : Env} (h : GO O (some a) env) : G O a env := GO.some.mp h
end
end A
end PyI

namespace PyI
open PySem
namespace A
section
variable {O : Opq} {Δ : ACx} {Γ : Ctx}
theorem noK_of {c : Bool} {A : Prop} (h : c = false) (a : A) : noK c A := by subst h; exact a
theorem yesK_of {c : Bool} {A : Prop} (h : c = true) (a : A) : yesK c A := by subst h; exact a
theorem boolK_b {b : Bool} {K : Bool → Prop} (k : K b) : boolK (.own (.leaf (.bool b))) K := k
theorem If2.of {c : Bool} {A B : Prop} (a : c = true → A) (b : c = false → B) : If2 c A B := ⟨a, b⟩
theorem ar_off {ars : List AR} {rs : List R} {tc : List Nat} {a b : Env} (h : F2 (fun x r => γR O x r a) ars rs) (s : St tc a b) : F2 (fun x r => γR O x r b) (ars.map (AR.off tc)) rs := by
  induction h with
  | nil => exact .nil
  | cons h1 _ ih => exact .cons (h1.st s) ih
theorem St.nil {a b c : Env} {tc : List Nat} (h : St [] a b) (q : St tc b c) : St tc a c := (h.trans q).mono fun i hi => hi
theorem St.nil' {a b c : Env} {tc : List Nat} (h : St tc a b) (q : St [] b c) : St tc a c := (h.trans q).mono fun i hi => by simpa using hi
theorem comp_fin {I : AI} {C : AC} {body : AEnv → Option AC} {elt : E} {t : T} {cond : PyI.C} {vs : List Nat} {s : Src} {n : Nat} {env e1 : Env} (hR : aComp (okS I.live) body I.hi I.ae = some C) (p : PI O I env s n e1) (hlv : liveOk I.live C.tc = true) (hc1 : vs.all (frA I.ae) = true) (hc2 : freeI I.live vs = true) (hc3 : I.hi ≤ bigL)
    (step : ∀ ds : List D, StepOk O body (compStep Γ elt t cond vs) (fun d => has I.t d ∧ tgI I.tg d e1) C.tc e1) :
    CompP Γ elt t cond vs s n e1 (Pst O (.of (.own (.l C.a (if C.all = true then I.lo else 0) I.hi) .no) (restA I.ae vs C.ae) (I.tc ++ C.tc.filter fun j => !vs.contains j)) env) := by
  obtain ⟨ds, hn, hlo, hhi, hds, hsrc⟩ := p.ds
  subst hn
  have hfree : s.free vs = true := by
    cases hL : I.live with
    | none => rw [hL] at hsrc; simp only at hsrc; subst hsrc; rfl
    | some q =>
      obtain ⟨i, w⟩ := q
      rw [hL] at hsrc hc2
      simp only at hsrc
      obtain ⟨rfl, _⟩ := hsrc
      exact hc2
  obtain ⟨ts, e2, c1, ⟨us, d1, d2, d3, d4⟩, c3, c4⟩ := compA_ok (g := s.get) (ok := okS I.live) (TC := C.tc) (env0 := e1) (ds := ds) (fun st en j ho hG hS => get_ok (env0 := env) (n := ds.length) hsrc hlv j ho hG hS) hds (step ds) I.hi I.ae C hR (fun i hi => hi) ds [] ds.length [] e1 rfl hhi (Nat.le_refl _) (by rw [sizeLine_eq]; unfold bigL at hc3; simp; omega) p.g (St.refl _ _)
  refine ⟨by rw [slots_ok p.g hc1, hfree]; rfl, ts, e2, c1, ?_⟩
  rw [List.nil_append] at d1
  subst d1
  refine Pst.of ⟨_, rfl, ⟨_, rfl, ?_, by omega, d4⟩, trivial⟩ (rest_ok p.g c3 vs) (p.st.trans (rest_st c4))
  split
  · rename_i ca
    rw [d3 ca]; exact hlo
  · exact Nat.zero_le _
mutual
theorem aE_ok (S : Snd O Δ Γ) : ∀ (e : E) {ae : AEnv} {Z : Rs} {env : Env}, aE Δ e ae = some Z → G O ae env → wpE Γ e env (Pst O Z env)
  | .var i, ae, Z, env, h, g => by
    unfold aE at h
    unfold wpE
    split at h
    · rename_i t ht
      cases h
      obtain ⟨y, h1, ⟨d, rfl, h2⟩, _⟩ := g.lt ht
      rw [h1]
      exact Pst.of ⟨_, rfl, ⟨d, rfl, h2⟩, vtag_ok g h1 h2⟩ g (St.refl _ _)
    · rename_i a hn ha
      cases h
      obtain ⟨y, h1, h2, _⟩ := g.lt ha
      rw [h1]
      have hy : ∃ gg ts, y = .nod gg ts := by
        cases a with
        | d t => exact (hn t rfl).elim
        | l t lo hi => obtain ⟨ts, rfl, _⟩ := h2; exact ⟨_, _, rfl⟩
        | o n => exact O.nod _ _ h2
      obtain ⟨gg, ts, rfl⟩ := hy
      exact Pst.of rfl g (St.refl _ _)
    · cases h
  | .c d, ae, Z, env, h, g => by
    unfold aE at h
    obtain ⟨t, h1, rfl⟩ := Option.map_eq_some_iff.mp h
    unfold wpE
    exact Pst.of ⟨_, rfl, ⟨d, rfl, tyC_ok h1⟩, trivial⟩ g (St.refl _ _)
  | .op o as, ae, Z, env, h, g => by
    unfold aE at h
    split at h
    · rename_i hr
      cases h
      exact refA_ok hr g
    · split at h
      · rename_i rs ae1 tc h1
        obtain ⟨⟨ar, ae2⟩, h2, rfl⟩ := Option.map_eq_some_iff.mp h
        unfold wpE
        exact wpEs_mono as (fun ps e ⟨q1, q2, q3⟩ => oA_ok h2 q2 q1 fun r e' p1 p2 p3 => Pst.of p1 p2 (St.nil' q3 p3)) (aEs_ok S as h1 g)
      · cases h
  | .and a b, ae, Z, env, h, g => by
    unfold aE at h
    unfold wpE
    split at h
    · rename_i R1 h1
      split at h
      · rename_i hb
        refine wpE_mono a (fun r e p => ?_) (aE_ok S a h1 g)
        obtain ⟨v, rfl⟩ := isB_ok hb p.vr
        have pb := p.vb v rfl
        refine boolK_b (If2.of (fun hv => ?_) fun hv => ?_)
        · subst hv
          rw [if_pos rfl] at pb
          obtain ⟨e1, pe, pg⟩ := pb
          rw [pe] at h
          simp only at h
          split at h
          · rename_i R2 h2
            split at h
            · rename_i hb2
              cases h
              refine wpE_mono b (fun r e' q => ?_) (aE_ok S b h2 pg)
              obtain ⟨w, rfl⟩ := isB_ok hb2 q.vr
              refine ⟨boolAR_ok, GO_else (.inl (joinO_ok (.inl ⟨_, rfl, q.g⟩))), p.s.trans q.s, fun b' hb' => ?_⟩
              cases hb'
              have qb := q.vb w rfl
              cases w with
              | true => exact qb
              | false => exact joinO_ok (.inr qb)
            · cases h
          · cases h
        · subst hv
          rw [if_neg Bool.false_ne_true] at pb
          split at h
          · cases h
            exact ⟨boolAR_ok, GO_else (.inl pb), p.s, fun b' hb' => by cases hb'; exact pb⟩
          · split at h
            · rename_i R2 h2
              split at h
              · cases h
                exact ⟨boolAR_ok, GO_else (.inl (joinO_ok (.inr pb))), p.s.mono fun i hi => List.mem_append_left _ hi, fun b' hb' => by cases hb'; exact joinO_ok (.inl pb)⟩
              · cases h
            · cases h
      · cases h
    · cases h
  | .or a b, ae, Z, env, h, g => by
    unfold aE at h
    unfold wpE
    split at h
    · rename_i R1 h1
      split at h
      · rename_i hb
        refine wpE_mono a (fun r e p => ?_) (aE_ok S a h1 g)
        obtain ⟨v, rfl⟩ := isB_ok hb p.vr
        have pb := p.vb v rfl
        refine boolK_b (If2.of (fun hv => ?_) fun hv => ?_)
        · subst hv
          rw [if_pos rfl] at pb
          split at h
          · cases h
            exact ⟨boolAR_ok, GO_else (.inl pb), p.s, fun b' hb' => by cases hb'; exact pb⟩
          · split at h
            · rename_i R2 h2
              split at h
              · cases h
                exact ⟨boolAR_ok, GO_else (.inl (joinO_ok (.inr pb))), p.s.mono fun i hi => List.mem_append_left _ hi, fun b' hb' => by cases hb'; exact joinO_ok (.inl pb)⟩
              · cases h
            · cases h
        · subst hv
          rw [if_neg Bool.false_ne_true] at pb
          obtain ⟨e1, pe, pg⟩ := pb
          rw [pe] at h
          simp only at h
          split at h
          · rename_i R2 h2
            split at h
            · rename_i hb2
              cases h
              refine wpE_mono b (fun r e' q => ?_) (aE_ok S b h2 pg)
              obtain ⟨w, rfl⟩ := isB_ok hb2 q.vr
              refine ⟨boolAR_ok, GO_else (.inl (joinO_ok (.inl ⟨_, rfl, q.g⟩))), p.s.trans q.s, fun b' hb' => ?_⟩
              cases hb'
              have qb := q.vb w rfl
              cases w with
              | true => exact joinO_ok (.inr qb)
              | false => exact qb
            · cases h
          · cases h
      · cases h
    · cases h
  | .not a, ae, Z, env, h, g => by
    unfold aE at h
    unfold wpE
    split at h
    · rename_i R1 h1
      split at h
      · rename_i hb
        cases h
        refine wpE_mono a (fun r e p => ?_) (aE_ok S a h1 g)
        obtain ⟨v, rfl⟩ := isB_ok hb p.vr
        have pb := p.vb v rfl
        refine boolK_b ⟨boolAR_ok, p.g, p.s, fun b' hb' => ?_⟩
        cases hb'
        cases v <;> exact pb
      · cases h
    · cases h
  | .ite c a b, ae, Z, env, h, g => by
    unfold aE at h
    unfold wpE
    split at h
    · rename_i R1 h1
      split at h
      · rename_i hb
        refine wpE_mono c (fun r e p => ?_) (aE_ok S c h1 g)
        obtain ⟨v, rfl⟩ := isB_ok hb p.vr
        have pb := p.vb v rfl
        refine boolK_b (If2.of (fun hv => ?_) fun hv => ?_)
        · subst hv
          rw [if_pos rfl] at pb
          obtain ⟨e1, pe, pg⟩ := pb
          rw [pe] at h
          split at h
          · rename_i x y z1 z2
            cases z1
            split at h
            · rename_i Ra Rb ha hbb
              split at h
              · rename_i u _ w _ eu ew
                obtain ⟨zz, hz, rfl⟩ := Option.map_eq_some_iff.mp h
                refine wpE_mono a (fun r e' q => ?_) (aE_ok S a ha pg)
                have qr := q.vr
                rw [eu] at qr
                obtain ⟨t, rfl, q1, _⟩ := qr
                exact Pst.of ⟨t, rfl, AV.join_ok hz (.inl q1), trivial⟩ (joinE_ok (.inl q.g)) ((p.s.trans q.s).mono fun i hi => by
                  rcases List.mem_append.mp hi with hi | hi
                  · exact List.mem_append_left _ hi
                  · exact List.mem_append_right _ (List.mem_append_left _ hi))
              · cases h
            · cases h
          · rename_i x z1 z2
            cases z1
            split at h
            · rename_i Ra ha
              cases h
              exact wpE_mono a (fun r e' q => q.to p.s) (aE_ok S a ha pg)
            · cases h
          · rename_i z1 _
            cases z1
          · cases h
        · subst hv
          rw [if_neg Bool.false_ne_true] at pb
          obtain ⟨e1, pe, pg⟩ := pb
          rw [pe] at h
          split at h
          · rename_i x y z1 z2
            cases z2
            split at h
            · rename_i Ra Rb ha hbb
              split at h
              · rename_i u _ w _ eu ew
                obtain ⟨zz, hz, rfl⟩ := Option.map_eq_some_iff.mp h
                refine wpE_mono b (fun r e' q => ?_) (aE_ok S b hbb pg)
                have qr := q.vr
                rw [ew] at qr
                obtain ⟨t, rfl, q1, _⟩ := qr
                exact Pst.of ⟨t, rfl, AV.join_ok hz (.inr q1), trivial⟩ (joinE_ok (.inr q.g)) ((p.s.trans q.s).mono fun i hi => by
                  rcases List.mem_append.mp hi with hi | hi
                  · exact List.mem_append_left _ hi
                  · exact List.mem_append_right _ (List.mem_append_right _ hi))
              · cases h
            · cases h
          · rename_i x z1 z2
            cases z2
          · rename_i z1 z2 z3
            cases z3
            split at h
            · rename_i Ra ha
              cases h
              exact wpE_mono b (fun r e' q => q.to p.s) (aE_ok S b ha pg)
            · cases h
          · cases h
      · cases h
    · cases h
  | .chain o p a b c, ae, Z, env, h, g => by
    unfold aE at h
    unfold wpE
    split at h
    · rename_i Ra ha
      split at h
      · rename_i Rb hb
        split at h
        · rename_i Rc hc
          split at h
          · rename_i hf
            split at h
            · rename_i ps qs hp hq
              split at h
              · rename_i t _ u _ ht hu
                split at h
                · rename_i hbo
                  cases h
                  have hbo := Bool.and_eq_true_iff.mp hbo
                  refine wpE_mono a (fun ra e1 pa => noK_of (by rw [pa.vr.deep]; rfl) (wpE_mono b (fun rb e2 pb => yesK_of hf ?_) (aE_ok S b hb pa.g))) (aE_ok S a ha g)
                  refine dats_K pb.g hp (.cons (pa.vr.st pb.s) (.cons pb.vr .nil)) fun ds hds => ?_
                  refine fl_ok ht hds fun d hd => ?_
                  obtain ⟨v, rfl⟩ := isBoolT_ok hbo.1 hd.1
                  refine boolK_b (If2.of (fun _ => noK_of (by rw [pb.vr.deep]; rfl) ?_) fun _ => ?_)
                  · refine wpE_mono c (fun rc e3 pc => ?_) (aE_ok S c hc pb.g)
                    refine dats_K pc.g hq (.cons (pb.vr.st pc.s) (.cons pc.vr .nil)) fun es hes => ?_
                    refine fl_ok hu hes fun d hd => ?_
                    obtain ⟨w, rfl⟩ := isBoolT_ok hbo.2 hd.1
                    exact Pst.of boolAR_ok (joinE_ok (.inr pc.g)) (pa.s.trans (pb.s.trans pc.s))
                  · exact Pst.of boolAR_ok (joinE_ok (.inl pb.g)) ((pa.s.trans pb.s).mono fun i hi => by
                      rcases List.mem_append.mp hi with hi | hi
                      · exact List.mem_append_left _ hi
                      · exact List.mem_append_right _ (List.mem_append_left _ hi))
                · cases h
              · cases h
            · cases h
          · cases h
        · cases h
      · cases h
    · cases h
  | .sl a lo hi, ae, Z, env, h, g => by
    unfold aE at h
    unfold wpE
    split at h
    · rename_i Ra ha
      split at h
      · rename_i l e2 tc2 hl
        split at h
        · rename_i u e3 tc3 hu
          obtain ⟨ar, h1, rfl⟩ := Option.map_eq_some_iff.mp h
          exact wpE_mono a (fun r e1 pa => noK_of pa.vr.deep (wpP_mono lo (fun vl e2 q2 => wpP_mono hi (fun vh e3 q3 => slA_ok h1 q3.2.1 ((pa.vr.st q2.2.2).st q3.2.2) q2.1 q3.1 fun r hr => Pst.of hr q3.2.1 (pa.s.trans (q2.2.2.trans q3.2.2))) (aP_ok S hi hu q2.2.1)) (aP_ok S lo hl pa.g))) (aE_ok S a ha g)
        · cases h
      · cases h
    · cases h
  | .meth m o as, ae, Z, env, h, g => by
    cases o with
    | var v =>
      unfold aE at h
      split at h
      · rename_i t lo hi hv
        split at h
        · rename_i rs e2 tc h1
          obtain ⟨⟨ar, e3, tc3⟩, h2, rfl⟩ := Option.map_eq_some_iff.mp h
          obtain ⟨y, h3, ⟨ts, rfl, _⟩, _⟩ := g.lt hv
          unfold wpE
          unfold wpE
          rw [h3]
          refine noK_of rfl (treeK_of (t := .nod none ts) (by show env.look v [] = _; unfold Env.look; rw [lk_eq h3]; rfl) ?_)
          exact wpEs_mono as (fun ps e ⟨q1, q2, q3⟩ => mtA_ok h2 q2 rfl q1 fun r e' p1 p2 p3 => Pst.of p1 p2 (q3.trans p3)) (aEs_ok S as h1 g)
        · cases h
      · cases h
    | _ => unfold aE at h; cases h
  | .call f as kw perm, ae, Z, env, h, g => by
    unfold aE at h
    unfold wpE
    split at h
    · rename_i rs e1 tc1 h1
      split at h
      · rename_i ks e2 tc2 h2
        split at h
        · rename_i hn
          split at h
          · rename_i qs hq
            obtain ⟨⟨ar, e3, tc3⟩, h3, rfl⟩ := Option.map_eq_some_iff.mp h
            refine wpEs_mono as (fun ps e ⟨q1, q2, q3⟩ => noK_of (anyDeep_no q1) (wpEs_mono kw (fun us e' ⟨p1, p2, p3⟩ => noK_of (anyDeep_no p1) (yesK_of hn ?_)) (aEs_ok S kw h2 q2))) (aEs_ok S as h1 g)
            obtain ⟨bs, hb, hF⟩ := ((ar_off q1 p3).app p1).pick hq
            rw [hb]
            exact callA_ok S h3 p2 hF fun r e'' r1 r2 r3 => Pst.of r1 r2 (q3.trans (p3.trans r3))
          · cases h
        · cases h
      · cases h
    · cases h
  | .comp elt t it cond own, ae, Z, env, h, g => by
    unfold aE at h
    unfold wpE
    split at h
    · rename_i I hI
      split at h
      · rename_i hc
        split at h
        · rename_i C hC
          split at h
          · rename_i hlv
            cases h
            simp only [Bool.and_eq_true, decide_eq_true_eq] at hc
            obtain ⟨hc1, hc2, hc3⟩ := hc
            refine wpIt_mono it (fun s n e1 p => ?_) (aIt_ok S it hI g)
            obtain ⟨tg, hR, hsafe⟩ := withTg_ok hC
            refine comp_fin hR p hlv hc1 hc2 hc3 fun _ => ?_
            generalize own.map (·.2) = vs at *
            intro s o d e hs hd hG hS htc
            obtain ⟨w1, w2⟩ := wipe_ok hG vs
            dsimp only at hs
            split at hs
            · rename_i s2 tc1 h1
              split at hs
              · rename_i et ef tc2 al h2
                have hvs : (∀ i ∈ vs, i ∈ o.tc) → tgI tg d (wipeE e vs) := fun hv => by
                  refine tg_in hsafe ((hS.trans w2).mono fun i hi => ?_) hd.2
                  exact (List.mem_append.mp hi).elim id fun hi => htc i (hv i hi)
                split at hs
                · split at hs
                  · rename_i fe
                    cases hs
                    obtain ⟨e2, t1, g2, s2'⟩ := wpT_eq t (aT_ok S t h1 w1 ⟨d, rfl, hd.1⟩ (hvs fun i hi => List.mem_append_left _ hi))
                    obtain ⟨b, e3, t3, q1, q2, q3⟩ := wpC_eq cond (aC_ok S cond h2 g2)
                    cases b with
                    | true => obtain ⟨z, zz, _⟩ := q1; cases zz
                    | false =>
                      obtain ⟨z, zz, gz⟩ := q1
                      cases zz
                      exact ⟨none, e3, by unfold compStep; rw [t1]; simp only; rw [t3], fun y hy => (nomatch hy), fun hy => (nomatch hy), gz, w2.trans (s2'.trans q2)⟩
                  · cases hs
                · rename_i s3
                  split at hs
                  · rename_i Z2 hZ2
                    split at hs
                    · rename_i a s4 hta
                      cases hs
                      obtain ⟨e2, t1, g2, s2'⟩ := wpT_eq t (aT_ok S t h1 w1 ⟨d, rfl, hd.1⟩ (hvs fun i hi => List.mem_append_left _ hi))
                      obtain ⟨b, e3, t3, q1, q2, q3⟩ := wpC_eq cond (aC_ok S cond h2 g2)
                      cases b with
                      | false =>
                        refine ⟨none, e3, by unfold compStep; rw [t1]; simp only; rw [t3], fun y hy => (nomatch hy), fun hy => ?_, GO_else (.inl (joinO_ok (.inr q1))), (w2.trans (s2'.trans q2)).mono fun i hi => ?_⟩
                        · have := q3 hy; cases this
                        · simp only [List.mem_append] at hi ⊢
                          rcases hi with hi | hi | hi
                          · exact .inl hi
                          · exact .inr (.inl hi)
                          · exact .inr (.inr (.inl hi))
                      | true =>
                        have g3 := GO_some q1
                        obtain ⟨r, e4, t4, p4⟩ := wpE_eq elt (aE_ok S elt hZ2 g3)
                        obtain ⟨y, e5, t5, y1, y2, y3⟩ := takeK_eq (take_K (K := fun y e => γ O a y ∧ G O s4 e ∧ St [] e4 e) p4.g hta p4.vr fun t e a b c => ⟨a, b, c⟩)
                        refine ⟨some y, e5, by unfold compStep; rw [t1]; simp only; rw [t3]; simp only; rw [t4]; simp only; rw [t5], fun z hz => by cases hz; exact y1, fun _ => ⟨y, rfl⟩, GO_else (.inl (joinO_ok (.inl ⟨_, rfl, y2⟩))), w2.trans (s2'.trans (q2.trans (St.nil' p4.s y3)))⟩
                    · cases hs
                  · cases hs
              · cases hs
            · cases hs
          · cases h
        · cases h
      · cases h
    · cases h
  | .dct ks vs, ae, Z, env, h, g => by unfold aE at h; cases h
theorem aEs_ok (S : Snd O Δ Γ) : ∀ (es : Es) {ae ae' : AEnv} {ars : List AR} {tc : List Nat} {env : Env}, aEs Δ es ae = some (ars, ae', tc) → G O ae env → wpEs Γ es env fun rs e => F2 (fun a r => γR O a r e) ars rs ∧ G O ae' e ∧ St tc env e
  | .nil, ae, ae', ars, tc, env, h, g => by
    unfold aEs at h
    cases h
    unfold wpEs
    exact ⟨.nil, g, St.refl _ _⟩
  | .cons e es, ae, ae', ars, tc, env, h, g => by
    unfold aEs at h
    unfold wpEs
    split at h
    · rename_i Z hZ
      split at h
      · rename_i rs e2 tc2 h2
        cases h
        exact wpE_mono e (fun r e1 p => noK_of (by rw [p.vr.deep]; rfl) (wpEs_mono es (fun us e' ⟨q1, q2, q3⟩ => ⟨.cons (p.vr.st q3) q1, q2, p.s.trans q3⟩) (aEs_ok S es h2 p.g))) (aE_ok S e hZ g)
      · cases h
    · cases h
theorem aC_ok (S : Snd O Δ Γ) : ∀ (c : C) {ae : AEnv} {et ef : Option AEnv} {tc : List Nat} {al : Bool} {env : Env}, aC Δ c ae = some (et, ef, tc, al) → G O ae env → wpC Γ c env fun b e => GO O (if b = true then et else ef) e ∧ St tc env e ∧ (al = true → b = true)
  | .non, ae, et, ef, tc, al, env, h, g => by
    unfold aC at h
    cases h
    unfold wpC
    exact ⟨⟨_, rfl, g⟩, St.refl _ _, fun _ => rfl⟩
  | .some e, ae, et, ef, tc, al, env, h, g => by
    unfold aC at h
    unfold wpC
    split at h
    · rename_i Z hZ
      split at h
      · rename_i hb
        cases h
        refine wpE_mono e (fun r e1 p => ?_) (aE_ok S e hZ g)
        obtain ⟨v, rfl⟩ := isB_ok hb p.vr
        exact boolK_b ⟨p.vb v rfl, p.s, fun z => nomatch z⟩
      · cases h
    · cases h
theorem aP_ok (S : Snd O Δ Γ) : ∀ (c : C) {ae ae' : AEnv} {o : Option (Int × Int)} {tc : List Nat} {env : Env}, aP Δ c ae = some (o, ae', tc) → G O ae env → wpP Γ c env fun v e => inB o v ∧ G O ae' e ∧ St tc env e
  | .non, ae, ae', o, tc, env, h, g => by
    unfold aP at h
    cases h
    unfold wpP
    exact ⟨trivial, g, St.refl _ _⟩
  | .some e, ae, ae', o, tc, env, h, g => by
    unfold aP at h
    unfold wpP
    split at h
    · rename_i Z hZ
      split at h
      · rename_i t gg ha
        obtain ⟨⟨l, u⟩, h1, h2⟩ := Option.map_eq_some_iff.mp h
        cases h2
        refine wpE_mono e (fun r e1 p => ?_) (aE_ok S e hZ g)
        have pr := p.vr
        rw [ha] at pr
        obtain ⟨x, rfl, ⟨d, rfl, q⟩, _⟩ := pr
        obtain ⟨i, rfl, c1, c2⟩ := intOf_ok h1 q
        exact ⟨⟨c1, c2⟩, p.g, p.s⟩
      · cases h
    · cases h
theorem aIt_ok (S : Snd O Δ Γ) : ∀ (it : It) {ae : AEnv} {I : AI} {env : Env}, aIt Δ it ae = some I → G O ae env → wpIt Γ it env (PI O I env)
  | .seq e, ae, I, env, h, g => by
    unfold aIt at h
    unfold wpIt
    split at h
    · rename_i Z hZ
      exact wpE_mono e (fun r e1 p => srcA_ok h p fun s n q => q) (aE_ok S e hZ g)
    · cases h
  | .enum e, ae, I, env, h, g => by
    unfold aIt at h
    unfold wpIt
    split at h
    · rename_i Z hZ
      exact wpE_mono e (fun r e1 p => srcA_ok h p fun s n q => q) (aE_ok S e hZ g)
    · cases h
  | .range as, ae, I, env, h, g => by
    unfold aIt at h
    unfold wpIt
    split at h
    · rename_i rs e1 tc h1
      exact wpEs_mono as (fun ps e ⟨q1, q2, q3⟩ => rangeA_ok h q2 q3 q1 fun s n q => q) (aEs_ok S as h1 g)
    · cases h
  | .zip a b, ae, I, env, h, g => by
    unfold aIt at h
    unfold wpIt
    split at h
    · rename_i Ra ha
      split at h
      · rename_i va e2 hva
        split at h
        · rename_i Rb hb
          split at h
          · rename_i vb e4 hvb
            exact wpE_mono a (fun ra e1 pa => take_K pa.g hva pa.vr fun ta e2 qa g2 s2 => wpE_mono b (fun rb e3 pb => take_K pb.g hvb pb.vr fun tb e4 qb g4 s4 => zipA_ok h g4 (pa.s.trans (St.nil s2 (St.nil' pb.s s4))) qa qb fun s n q => q) (aE_ok S b hb g2)) (aE_ok S a ha g)
          · cases h
        · cases h
      · cases h
    · cases h
theorem aT_ok (S : Snd O Δ Γ) : ∀ (t : T) {a : AV} {tg : Tg} {ae ae' : AEnv} {tc : List Nat} {x : OT} {env : Env}, aT Δ t a tg ae = some (ae', tc) → G O ae env → γ O a x → tgI tg x.dat env → wpT Γ t x env fun e => G O ae' e ∧ St tc env e
  | .nm i, a, tg, ae, ae', tc, x, env, h, g, q, ht => by
    unfold aT at h
    unfold wpT
    split at h
    · rename_i hi
      cases h
      exact stK_of (Nat.lt_of_lt_of_le hi g.len) ⟨setF_ok g hi q ht, St.set⟩
    · cases h
  | .tup ts, a, tg, ae, ae', tc, x, env, h, g, q, ht => by
    cases a with
    | d T =>
      unfold aT at h
      split at h
      · rename_i its hu
        obtain ⟨d, rfl, q0⟩ := q
        obtain ⟨xs, rfl, q1⟩ := unpT_ok hu q0
        unfold wpT
        exact aTs_ok S ts h g q1 fun y r e => by
          subst e
          cases tg with
          | lt j => exact fun _ => ht
          | _ => exact fun _ => trivial
      · cases h
    | _ => unfold aT at h; cases h
  | .sub o i, a, tg, ae, ae', tc, x, env, h, g, q, ht => by
    cases o with
    | var v =>
      unfold aT at h
      split at h
      · rename_i t0 lo0 hi0 hv
        split at h
        · rename_i Z hZ
          split at h
          · rename_i ti tgi t lo hi h1 h2
            split at h
            · rename_i l u hlu
              split at h
              · rename_i hin
                obtain ⟨w, h3, h4⟩ := Option.map_eq_some_iff.mp h
                cases h4
                obtain ⟨y, y1, ⟨ts, rfl, _⟩, _⟩ := g.lt hv
                unfold wpT
                unfold wpE
                rw [y1]
                refine noK_of rfl (wpE_mono i (fun ri e2 p => ?_) (aE_ok S i hZ g))
                obtain ⟨y, hy, hg⟩ := dt_ok h1 p.g p.vr
                refine treeK_of hy (dtK_of ?_)
                obtain ⟨n, e, c1, c2⟩ := intOf_ok hlu hg.1
                obtain ⟨z, z1, ⟨us, rfl, z2, z3, z4⟩, _⟩ := p.g.lt h2
                refine lookK_of z1 ?_
                have sl := slen_l z1
                have b := inR_ok (len := us.length) (d := .list (OT.dats us)) hin c1 c2 z2 (by rw [← e]; exact hg.2) ⟨us.length, by show some _ = _; rw [dats_len], sl⟩ (by show some _ = _; rw [dats_len])
                obtain ⟨k, k1, k2, _⟩ := ixN_in b.1 b.2
                rw [e]
                refine ⟨k, us[k], k1, List.getElem?_eq_getElem k2, ⟨putK_of z1 ⟨p.g.set ⟨_, rfl, us.set k x, rfl, ?_, ?_, fun w' hw => ?_⟩, p.s.trans St.set⟩⟩⟩
                · rw [List.length_set]; exact z2
                · rw [List.length_set]; exact z3
                · rcases List.mem_or_eq_of_mem_set hw with hw | rfl
                  · exact AV.join_ok h3 (.inl (z4 _ hw))
                  · exact AV.join_ok h3 (.inr q)
              · cases h
            · cases h
          · cases h
        · cases h
      · cases h
    | _ => unfold aT at h; cases h
theorem aTs_ok (S : Snd O Δ Γ) : ∀ (ts : Ts) {its : Ty} {tg : Tg} {ae ae' : AEnv} {tc : List Nat} {xs : List D} {env : Env}, aTs Δ ts its tg ae = some (ae', tc) → G O ae env → hasL its xs → (∀ y r, xs = y :: r → ∀ (_ : True), match tg with
    | .lt j => tgOk (.lt j) y env
    | _ => True) → wpTs Γ ts (xs.map .leaf) env fun e => G O ae' e ∧ St tc env e
  | .nil, its, tg, ae, ae', tc, xs, env, h, g, q, ht => by
    cases its with
    | nil =>
      unfold aTs at h
      cases h
      cases q
      unfold wpTs
      exact ⟨g, St.refl _ _⟩
    | _ => unfold aTs at h; cases h
  | .cons t ts, its, tg, ae, ae', tc, xs, env, h, g, q, ht => by
    cases its with
    | cons a r =>
      unfold aTs at h
      obtain ⟨y, ys, rfl, q1, q2⟩ := q
      split at h
      · rename_i e1 tc1 h1
        split at h
        · rename_i e2 tc2 h2
          cases h
          unfold wpTs
          refine wpT_mono t (fun e p => wpTs_mono ts (fun e' p' => ⟨p'.1, p.2.trans p'.2⟩) (aTs_ok S ts h2 p.1 q2 fun _ _ _ _ => trivial)) (aT_ok S t h1 g ⟨y, rfl, q1⟩ ?_)
          have := ht y ys rfl trivial
          cases tg with
          | lt j =>
            obtain ⟨n, m, e1, e2, e3⟩ := this
            subst e1
            exact ⟨n, m, rfl, e2, e3⟩
          | _ => exact trivial
        · cases h
      · cases h
    | _ => unfold aTs at h; cases h
end
end
end A
end PyI

namespace PyI
open PySem
namespace A
/-! ### statements -/
def AO.join (a b : AO) : Option AO := (joinR a.rt b.rt).map fun rt => ⟨joinO a.nx b.nx, joinO a.ct b.ct, joinO a.bk b.bk, rt, a.tc ++ b.tc⟩
def tagR : AR → Tg
  | .own _ (.lt j) => .lt j
  | _ => .no
def AO.nxt (e : AEnv) (tc : List Nat) : AO := ⟨some e, none, none, none, tc⟩
def aPs (Δ : ACx) : Ts → List AV → AEnv → Option (AEnv × List Nat)
  | .nil, [], ae => some (ae, [])
  | .cons t ts, a :: as, ae => (match aT Δ t a .no ae with
    | some (e1, tc1) => (match aPs Δ ts as e1 with
      | some (e2, tc2) => some (e2, tc1 ++ tc2)
      | none => none)
    | none => none)
  | _, _, _ => none
mutual
def aS (Δ : ACx) : S → AEnv → Option AO
  | .asg i e, ae => (match aE Δ e ae with
    | some R => (match R.ar.takeT R.ae with
      | some (a, e2) => if i < e2.sl.length then some (.nxt (setF i a (tagR R.ar) e2) (R.tc ++ [i])) else none
      | none => none)
    | none => none)
  | .par ts es, ae => (match aEs Δ es ae with
    | some (rs, e1, tc1) => (match takesT rs e1 with
      | some (as, e2) => (match aPs Δ ts as e2 with
        | some (e3, tc3) => some (.nxt e3 (tc1 ++ tc3))
        | none => none)
      | none => none)
    | none => none)
  | .unp t e, ae => (match aE Δ e ae with
    | some R => (match R.ar.takeT R.ae with
      | some (a, e2) => (match aT Δ (.tup t) a .no e2 with
        | some (e3, tc3) => some (.nxt e3 (R.tc ++ tc3))
        | none => none)
      | none => none)
    | none => none)
  | .put o i e, ae => (match aE Δ e ae with
    | some R => (match R.ar.takeT R.ae with
      | some (a, e2) => (match aT Δ (.sub o i) a .no e2 with
        | some (e3, tc3) => some (.nxt e3 (R.tc ++ tc3))
        | none => none)
      | none => none)
    | none => none)
  | .ex e, ae => (match aE Δ e ae with
    | some R => some (.nxt R.ae R.tc)
    | none => none)
  | .ret e, ae => (match aE Δ e ae with
    | some R => (match R.ar with
      | .own a _ => some ⟨none, none, none, some (a, R.ae), R.tc⟩
      | .al i => (match R.ae.at i with
        | .v a => some ⟨none, none, none, some (a, R.ae.set i .any), R.tc ++ [i]⟩
        | _ => none))
    | none => none)
  | .retN, ae => some ⟨none, none, none, some (.d .none, ae), []⟩
  | .ife c a b, ae => (match aE Δ c ae with
    | some R => if isB R.ar = true then (match R.t, R.f with
      | some e1, some e2 => (match aSs Δ a e1, aSs Δ b e2 with
        | some A, some B => (A.join B).map fun C => { C with tc := R.tc ++ C.tc }
        | _, _ => none)
      | some e1, none => (aSs Δ a e1).map fun C => { C with tc := R.tc ++ C.tc }
      | none, some e2 => (aSs Δ b e2).map fun C => { C with tc := R.tc ++ C.tc }
      | none, none => none) else none
    | none => none)
  | .loop t it b, ae => (match aIt Δ it ae with
    | some I => if freeI I.live (t.asgs ++ b.asgs) = true then (match withTg AF.tc I.tg fun tg => aFor (okS I.live) (fun s => match aT Δ t (.d I.t) tg s with
        | some (s2, tc1) => (aSs Δ b s2).map fun C => { C with tc := tc1 ++ C.tc }
        | none => none) I.hi I.ae with
      | some R => if liveOk I.live R.tc = true then some ⟨joinO (some R.fin) R.bk, none, none, R.rt, I.tc ++ R.tc⟩ else none
      | none => none) else none
    | none => none)
  | .whl _ _, _ => none
  | .brk, ae => some ⟨none, none, some ae, none, []⟩
  | .cont, ae => some ⟨none, some ae, none, none, []⟩
  | .pass, ae => some (.nxt ae [])
def aSs (Δ : ACx) : Ss → AEnv → Option AO
  | .nil, ae => some (.nxt ae [])
  | .cons s ss, ae => (match aS Δ s ae with
    | some A => (match A.nx with
      | none => some A
      | some e1 => (match aSs Δ ss e1 with
        | some B => (joinR A.rt B.rt).map fun rt => ⟨B.nx, joinO A.ct B.ct, joinO A.bk B.bk, rt, A.tc ++ B.tc⟩
        | none => none))
    | none => none)
  | .ali _ _ _ _ _, _ => none
end
section
variable {O : Opq} {Δ : ACx} {Γ : Ctx}
theorem AO.join_ok {a b c : AO} {o : Out} {env : Env} (h : a.join b = some c) (q : γO O a o env ∨ γO O b o env) : γO O c o env := by
  obtain ⟨rt, h1, rfl⟩ := Option.map_eq_some_iff.mp h
  cases o with
  | nx => exact joinO_ok q
  | ct => exact joinO_ok q
  | bk => exact joinO_ok q
  | ret t => exact joinR_ok h1 q
theorem AO.join_tc {a b c : AO} (h : a.join b = some c) : c.tc = a.tc ++ b.tc := by
  obtain ⟨rt, h1, rfl⟩ := Option.map_eq_some_iff.mp h
  rfl
theorem tagR_ok {ar : AR} {r : R} {ae e2 : AEnv} {a : AV} {env : Env} (q : γR O ar r env) : ∀ t, r.tree env = some t → tgI (tagR ar) t.dat env := by
  intro t ht
  cases ar with
  | al i => exact trivial
  | own x g =>
    obtain ⟨u, rfl, q1, q2⟩ := q
    cases ht
    cases g with
    | lt j =>
      obtain ⟨n, m, e1, e2, e3⟩ := q2
      show tgI (.lt j) _ _
      rw [e1]
      exact ⟨n, m, rfl, e2, e3⟩
    | _ => exact trivial
theorem take_tag {ae ae' : AEnv} {env : Env} (g : G O ae env) {ar : AR} {r : R} {a : AV} {K : OT → Env → Prop} (h : ar.takeT ae = some (a, ae')) (q : γR O ar r env) (k : ∀ t e, γ O a t → G O ae' e → St [] env e → tgI (tagR ar) t.dat e → K t e) : takeK r env K := by
  cases ar with
  | own x y =>
    have tg := tagR_ok (ae := ae) (e2 := ae) (a := a) q
    cases h
    obtain ⟨t, rfl, q1, _⟩ := q
    exact k t env q1 g (St.refl _ _) (tg t rfl)
  | al i => exact take_K g h q fun t e a b c => k t e a b c trivial
theorem aPs_ok (S : Snd O Δ Γ) : ∀ (ts : Ts) {as : List AV} {ae ae' : AEnv} {tc : List Nat} {xs : List OT} {env : Env}, aPs Δ ts as ae = some (ae', tc) → G O ae env → F2 (γ O) as xs → wpTs Γ ts xs env fun e => G O ae' e ∧ St tc env e
  | .nil, as, ae, ae', tc, xs, env, h, g, q => by
    cases q with
    | nil =>
      cases h
      unfold wpTs
      exact ⟨g, St.refl _ _⟩
    | cons _ _ => cases h
  | .cons t ts, as, ae, ae', tc, xs, env, h, g, q => by
    cases q with
    | nil => cases h
    | cons q1 q2 =>
      unfold aPs at h
      split at h
      · rename_i e1 tc1 h1
        split at h
        · rename_i e2 tc2 h2
          cases h
          unfold wpTs
          exact wpT_mono t (fun e p => wpTs_mono ts (fun e' p' => ⟨p'.1, p.2.trans p'.2⟩) (aPs_ok S ts h2 p.1 q2)) (aT_ok S t h1 g q1 trivial)
        · cases h
      · cases h
/-- a loop's end -/
theorem loop_fin {I : AI} {R : AF} {body : AEnv → Option AO} {t : T} {b : Ss} {s : Src} {n : Nat} {env e1 : Env} (hR : aFor (okS I.live) body I.hi I.ae = some R) (p : PI O I env s n e1) (hlv : liveOk I.live R.tc = true) (hc2 : freeI I.live (t.asgs ++ b.asgs) = true)
    (step : TurnOk O body (forStep Γ t b) (fun d => has I.t d ∧ tgI I.tg d e1) R.tc e1) :
    LoopP Γ t b s n e1 fun o e => γO O ⟨joinO (some R.fin) R.bk, none, none, R.rt, I.tc ++ R.tc⟩ o e ∧ St (I.tc ++ R.tc) env e := by
  obtain ⟨ds, hn, hlo, hhi, hds, hsrc⟩ := p.ds
  subst hn
  have hfree : s.free (t.asgs ++ b.asgs) = true := by
    cases hL : I.live with
    | none => rw [hL] at hsrc; simp only at hsrc; subst hsrc; rfl
    | some q =>
      obtain ⟨i, w⟩ := q
      rw [hL] at hsrc hc2
      simp only at hsrc
      obtain ⟨rfl, _⟩ := hsrc
      exact hc2
  obtain ⟨o, e2, c1, c2, c3⟩ := for_ok (g := s.get) (ok := okS I.live) (TC := R.tc) (env0 := e1) (ds := ds) (fun st en j ho hG hS => get_ok (env0 := env) (n := ds.length) hsrc hlv j ho hG hS) hds step I.hi I.ae R hR (fun i hi => hi) ds [] ds.length e1 rfl hhi (Nat.le_refl _) p.g (St.refl _ _)
  refine ⟨by rw [hfree]; rfl, o, e2, c1, ?_, p.st.trans c3⟩
  cases o with
  | nx => exact joinO_ok (c2.imp (fun q => ⟨_, rfl, q⟩) id)
  | ret u => exact c2
  | bk => exact c2.elim
  | ct => exact c2.elim
theorem γO_tc {C : AO} {tc : List Nat} {o : Out} {env : Env} (h : γO O C o env) : γO O { C with tc := tc } o env := by cases o <;> exact h
mutual
theorem aS_ok (S : Snd O Δ Γ) : ∀ (s : PyI.S) {ae : AEnv} {A : AO} {env : Env}, aS Δ s ae = some A → G O ae env → wpS Γ s env fun o e => γO O A o e ∧ St A.tc env e
  | .asg i e, ae, A, env, h, g => by
    unfold aS at h
    unfold wpS
    split at h
    · rename_i Z hZ
      split at h
      · rename_i a e2 ht
        split at h
        · rename_i hi
          cases h
          exact wpE_mono e (fun r e1 p => take_tag p.g ht p.vr fun t e3 q1 g3 s3 tg => stK_of (Nat.lt_of_lt_of_le hi g3.len) ⟨⟨_, rfl, setF_ok g3 hi q1 tg⟩, p.s.trans (St.nil s3 St.set)⟩) (aE_ok S e hZ g)
        · cases h
      · cases h
    · cases h
  | .par ts es, ae, A, env, h, g => by
    unfold aS at h
    unfold wpS
    split at h
    · rename_i rs e1 tc1 h1
      split at h
      · rename_i as e2 h2
        split at h
        · rename_i e3 tc3 h3
          cases h
          exact wpEs_mono es (fun ps e ⟨q1, q2, q3⟩ => takes_K q2 h2 q1 fun xs e' hx g2 s2 => wpTs_mono ts (fun e'' p => ⟨⟨_, rfl, p.1⟩, q3.trans (St.nil s2 p.2)⟩) (aPs_ok S ts h3 g2 hx)) (aEs_ok S es h1 g)
        · cases h
      · cases h
    · cases h
  | .unp t e, ae, A, env, h, g => by
    unfold aS at h
    unfold wpS
    split at h
    · rename_i Z hZ
      split at h
      · rename_i a e2 ht
        split at h
        · rename_i e3 tc3 h3
          cases h
          exact wpE_mono e (fun r e1 p => take_K p.g ht p.vr fun x e' q1 g2 s2 => wpT_mono _ (fun e'' p' => ⟨⟨_, rfl, p'.1⟩, p.s.trans (St.nil s2 p'.2)⟩) (aT_ok S _ h3 g2 q1 trivial)) (aE_ok S e hZ g)
        · cases h
      · cases h
    · cases h
  | .put o i e, ae, A, env, h, g => by
    unfold aS at h
    unfold wpS
    split at h
    · rename_i Z hZ
      split at h
      · rename_i a e2 ht
        split at h
        · rename_i e3 tc3 h3
          cases h
          exact wpE_mono e (fun r e1 p => take_K p.g ht p.vr fun x e' q1 g2 s2 => wpT_mono _ (fun e'' p' => ⟨⟨_, rfl, p'.1⟩, p.s.trans (St.nil s2 p'.2)⟩) (aT_ok S _ h3 g2 q1 trivial)) (aE_ok S e hZ g)
        · cases h
      · cases h
    · cases h
  | .ex e, ae, A, env, h, g => by
    unfold aS at h
    unfold wpS
    split at h
    · rename_i Z hZ
      cases h
      exact wpE_mono e (fun r e1 p => ⟨⟨_, rfl, p.g⟩, p.s⟩) (aE_ok S e hZ g)
    · cases h
  | .ret e, ae, A, env, h, g => by
    unfold aS at h
    unfold wpS
    split at h
    · rename_i Z hZ
      split at h
      · rename_i a gg ha
        cases h
        refine wpE_mono e (fun r e1 p => ?_) (aE_ok S e hZ g)
        have pr := p.vr
        rw [ha] at pr
        obtain ⟨t, rfl, q1, _⟩ := pr
        exact ⟨⟨_, _, rfl, q1, p.g⟩, p.s⟩
      · rename_i i ha
        split at h
        · rename_i a hv
          cases h
          refine wpE_mono e (fun r e1 p => ?_) (aE_ok S e hZ g)
          have pr := p.vr
          rw [ha] at pr
          cases pr
          obtain ⟨y, y1, y2, yl⟩ := p.g.lt hv
          unfold retK
          simp only
          rw [y1]
          exact stK_of yl ⟨⟨_, _, rfl, y2, p.g.set trivial⟩, p.s.trans St.set⟩
        · cases h
    · cases h
  | .retN, ae, A, env, h, g => by
    unfold aS at h
    cases h
    unfold wpS
    exact ⟨⟨_, _, rfl, ⟨_, rfl, rfl⟩, g⟩, St.refl _ _⟩
  | .ife c a b, ae, A, env, h, g => by
    unfold aS at h
    unfold wpS
    split at h
    · rename_i Z hZ
      split at h
      · rename_i hb
        refine wpE_mono c (fun r e p => ?_) (aE_ok S c hZ g)
        obtain ⟨v, rfl⟩ := isB_ok hb p.vr
        have pb := p.vb v rfl
        refine boolK_b (If2.of (fun hv => ?_) fun hv => ?_)
        · subst hv
          rw [if_pos rfl] at pb
          obtain ⟨e1, pe, pg⟩ := pb
          rw [pe] at h
          split at h
          · rename_i x y z1 z2
            cases z1
            split at h
            · rename_i A1 B1 ha hbb
              obtain ⟨C, hC, rfl⟩ := Option.map_eq_some_iff.mp h
              exact wpSs_mono a (fun o e' q => ⟨γO_tc (AO.join_ok hC (.inl q.1)), (p.s.trans q.2).mono fun i hi => by
                show i ∈ Z.tc ++ C.tc
                rw [AO.join_tc hC]
                rcases List.mem_append.mp hi with hi | hi
                · exact List.mem_append_left _ hi
                · exact List.mem_append_right _ (List.mem_append_left _ hi)⟩) (aSs_ok S a ha pg)
            · cases h
          · rename_i x z1 z2
            cases z1
            obtain ⟨C, hC, rfl⟩ := Option.map_eq_some_iff.mp h
            exact wpSs_mono a (fun o e' q => ⟨γO_tc q.1, p.s.trans q.2⟩) (aSs_ok S a hC pg)
          · rename_i z1 _
            cases z1
          · cases h
        · subst hv
          rw [if_neg Bool.false_ne_true] at pb
          obtain ⟨e1, pe, pg⟩ := pb
          rw [pe] at h
          split at h
          · rename_i x y z1 z2
            cases z2
            split at h
            · rename_i A1 B1 ha hbb
              obtain ⟨C, hC, rfl⟩ := Option.map_eq_some_iff.mp h
              exact wpSs_mono b (fun o e' q => ⟨γO_tc (AO.join_ok hC (.inr q.1)), (p.s.trans q.2).mono fun i hi => by
                show i ∈ Z.tc ++ C.tc
                rw [AO.join_tc hC]
                rcases List.mem_append.mp hi with hi | hi
                · exact List.mem_append_left _ hi
                · exact List.mem_append_right _ (List.mem_append_right _ hi)⟩) (aSs_ok S b hbb pg)
            · cases h
          · rename_i x z1 z2
            cases z2
          · rename_i z1 z2 z3
            cases z3
            obtain ⟨C, hC, rfl⟩ := Option.map_eq_some_iff.mp h
            exact wpSs_mono b (fun o e' q => ⟨γO_tc q.1, p.s.trans q.2⟩) (aSs_ok S b hC pg)
          · cases h
      · cases h
    · cases h
  | .loop t it b, ae, A, env, h, g => by
    unfold aS at h
    unfold wpS
    split at h
    · rename_i I hI
      split at h
      · rename_i hc2
        split at h
        · rename_i R hC
          split at h
          · rename_i hlv
            cases h
            refine wpIt_mono it (fun s n e1 p => ?_) (aIt_ok S it hI g)
            obtain ⟨tg, hR, hsafe⟩ := withTg_ok hC
            refine loop_fin hR p hlv hc2 ?_
            intro s o d e hs hd hG hS htc
            dsimp only at hs
            split at hs
            · rename_i s2 tc1 h1
              obtain ⟨C, h2, rfl⟩ := Option.map_eq_some_iff.mp hs
              obtain ⟨e2, t1, g2, s2'⟩ := wpT_eq t (aT_ok S t h1 hG ⟨d, rfl, hd.1⟩ (tg_in hsafe hS hd.2))
              obtain ⟨o, e3, t3, q1, q2⟩ := wpSs_eq b (aSs_ok S b h2 g2)
              exact ⟨o, e3, by unfold forStep; rw [t1]; exact t3, γO_tc q1, s2'.trans q2⟩
            · cases hs
          · cases h
        · cases h
      · cases h
    · cases h
  | .whl c b, ae, A, env, h, g => by unfold aS at h; cases h
  | .brk, ae, A, env, h, g => by
    unfold aS at h
    cases h
    unfold wpS
    exact ⟨⟨_, rfl, g⟩, St.refl _ _⟩
  | .cont, ae, A, env, h, g => by
    unfold aS at h
    cases h
    unfold wpS
    exact ⟨⟨_, rfl, g⟩, St.refl _ _⟩
  | .pass, ae, A, env, h, g => by
    unfold aS at h
    cases h
    unfold wpS
    exact ⟨⟨_, rfl, g⟩, St.refl _ _⟩
theorem aSs_ok (S : Snd O Δ Γ) : ∀ (ss : Ss) {ae : AEnv} {A : AO} {env : Env}, aSs Δ ss ae = some A → G O ae env → wpSs Γ ss env fun o e => γO O A o e ∧ St A.tc env e
  | .nil, ae, A, env, h, g => by
    unfold aSs at h
    cases h
    unfold wpSs
    exact ⟨⟨_, rfl, g⟩, St.refl _ _⟩
  | .cons s ss, ae, A, env, h, g => by
    unfold aSs at h
    unfold wpSs
    split at h
    · rename_i A1 h1
      have p := aS_ok S s h1 g
      split at h
      · rename_i hn
        cases h
        refine wpS_mono s (fun o e q => ?_) p
        cases o with
        | nx => obtain ⟨e1, z, _⟩ := q.1; rw [hn] at z; cases z
        | ct => exact q
        | bk => exact q
        | ret t => exact q
      · rename_i e1 hn
        split at h
        · rename_i B hB
          obtain ⟨rt, hr, rfl⟩ := Option.map_eq_some_iff.mp h
          refine wpS_mono s (fun o e q => ?_) p
          cases o with
          | nx =>
            obtain ⟨e1', z, gz⟩ := q.1
            rw [hn] at z
            cases z
            refine ⟨wpSs_mono ss (fun o' e' q' => ⟨?_, q.2.trans q'.2⟩) (aSs_ok S ss hB gz)⟩
            cases o' with
            | nx => exact q'.1
            | ct => exact joinO_ok (.inr q'.1)
            | bk => exact joinO_ok (.inr q'.1)
            | ret t => exact joinR_ok hr (.inr q'.1)
          | ct => exact ⟨joinO_ok (.inl q.1), q.2.mono fun i hi => List.mem_append_left _ hi⟩
          | bk => exact ⟨joinO_ok (.inl q.1), q.2.mono fun i hi => List.mem_append_left _ hi⟩
          | ret t => exact ⟨joinR_ok hr (.inl q.1), q.2.mono fun i hi => List.mem_append_left _ hi⟩
        · cases h
    · cases h
  | .ali _ _ _ _ _, ae, A, env, h, g => by unfold aSs at h; cases h
end
end
/-! ### defs -/
def defA (Δ : ACx) (d : Def) (as : List AV) : Option (AV × List AS) := if as.length = d.n then (match aSs Δ d.body ⟨as.map .v ++ List.replicate (d.N.length - as.length) .fr, []⟩ with
  | some A => if (A.ct.isNone && A.bk.isNone) = true then (match joinR A.rt (A.nx.map fun e => (.d .none, e)) with
    | some (some (a, e)) => some (a, (List.range d.n).map fun j => if d.keep j = true then e.at j else .any)
    | _ => none) else none
  | none => none) else none
def aRun (P : List Def) (sum : Nat → Nat → List AV → Option (AV × List AS)) (dr : Nat) : Nat → Nat → List AV → Option (AV × List AS)
  | 0, _, _ => none
  | k + 1, f, as => match sum k f as with
    | some r => some r
    | none => if f = dr then none else (match P[f]? with
      | some d => defA ⟨aRun P sum dr k, keepOf P, dr⟩ d as
      | none => none)
structure SumOk (O : Opq) (P : List Def) (sum : Nat → Nat → List AV → Option (AV × List AS)) (dr : Nat) : Prop where
  ok : ∀ k f as a fs ts, sum k f as = some (a, fs) → F2 (γ O) as ts → CallP (run P (k + 1) f) ts fun t fin => γ O a t ∧ F2 (γS O) fs fin ∧ (f = dr → Below ts t)
section
variable {O : Opq}
theorem start_at {as : List AV} {ts : List OT} (h : F2 (γ O) as ts) (m : Nat) : ∀ i, γS O (((as.map AS.v ++ List.replicate m AS.fr)[i]?).getD .any) (lk (ts.map some ++ List.replicate m none) i) := by
  induction h with
  | nil =>
    intro i
    rw [List.map_nil, List.map_nil, List.nil_append, List.nil_append]
    rw [lk_get]
    by_cases c : i < m
    · rw [List.getElem?_replicate, if_pos c, List.getElem?_replicate, if_pos c]
      exact .inl rfl
    · rw [List.getElem?_replicate, if_neg c]
      exact trivial
  | @cons a t as ts h1 _ ih =>
    intro i
    cases i with
    | zero => exact ⟨t, rfl, h1⟩
    | succ i => exact ih i
theorem defA_ok {Δ : ACx} {P : List Def} {k : Nat} (S : Snd O Δ ⟨run P k, keepOf P⟩) {f : Nat} {d : Def} (hd : P[f]? = some d) {as : List AV} {a : AV} {fs : List AS} {ts : List OT} (h : defA Δ d as = some (a, fs)) (q : F2 (γ O) as ts) : CallP (run P (k + 1) f) ts fun t fin => γ O a t ∧ F2 (γS O) fs fin := by
  unfold defA at h
  split at h
  · rename_i hl
    split at h
    · rename_i A hA
      split at h
      · rename_i hc
        split at h
        · rename_i a' e hr
          cases h
          have hc := Bool.and_eq_true_iff.mp hc
          have hlt : ts.length = d.n := by rw [← q.length]; exact hl
          have fin_ok : ∀ {env : Env}, G O e env → F2 (γS O) ((List.range d.n).map fun j => if d.keep j = true then e.at j else .any) (d.fin env) := fun {env} g => by
            unfold Def.fin
            generalize List.range d.n = l
            induction l with
            | nil => exact .nil
            | cons j l ih =>
              refine .cons ?_ ih
              show γS O (if d.keep j = true then e.at j else .any) (if d.keep j = true then env.getD j none else none)
              split
              · have := g.sl j
                rw [lk_get] at this
                rw [List.getD_eq_getElem?_getD]
                exact this
              · exact trivial
          have g0 : G O ⟨as.map .v ++ List.replicate (d.N.length - as.length) .fr, []⟩ (startE d ts) := by
            refine ⟨?_, ?_, fun p hp => nomatch hp⟩
            · unfold startE
              simp only [List.length_append, List.length_map, List.length_replicate]
              rw [q.length]
              exact Nat.le_refl _
            · unfold startE
              rw [← q.length]
              exact start_at q _
          refine call_def hd hlt (?_ : normK _ _)
          have nk : ∀ {e : Env} {K : Env → Prop}, K e → normK e K := fun {e} {K} => by
            induction e generalizing K with
            | nil => exact id
            | cons x r ih => intro h; exact ih (K := fun r' => K (x :: r')) h
          refine nk (wpSs_mono d.body (fun o env p => ?_) (aSs_ok S d.body hA g0))
          cases o with
          | nx =>
            obtain ⟨e1, z, gz⟩ := p.1
            rw [z] at hr
            have : GR O (some (a, e)) (.leaf .none) env := joinR_ok hr (.inr ⟨.d .none, e1, rfl, ⟨_, rfl, rfl⟩, gz⟩)
            obtain ⟨v, e', z1, z2, z3⟩ := this
            cases z1
            exact ⟨z2, fin_ok z3⟩
          | ret t =>
            have : GR O (some (a, e)) t env := joinR_ok hr (.inl p.1)
            obtain ⟨v, e', z1, z2, z3⟩ := this
            cases z1
            exact ⟨z2, fin_ok z3⟩
          | bk =>
            obtain ⟨e1, z, gz⟩ := p.1
            have := hc.2
            rw [z] at this
            cases this
          | ct =>
            obtain ⟨e1, z, gz⟩ := p.1
            have := hc.1
            rw [z] at this
            cases this
        · cases h
      · cases h
    · cases h
  · cases h
theorem aRun_ok {P : List Def} {sum : Nat → Nat → List AV → Option (AV × List AS)} {dr : Nat} (hs : SumOk O P sum dr) : ∀ k f as a fs ts, aRun P sum dr k f as = some (a, fs) → F2 (γ O) as ts → CallP (run P k f) ts fun t fin => γ O a t ∧ F2 (γS O) fs fin ∧ (f = dr → Below ts t)
  | 0, f, as, a, fs, ts, h, q => by unfold aRun at h; cases h
  | k + 1, f, as, a, fs, ts, h, q => by
    unfold aRun at h
    split at h
    · rename_i r hr
      cases h
      exact hs.ok k f as a fs ts hr q
    · split at h
      · cases h
      · rename_i hf
        split at h
        · rename_i d hd
          have S : Snd O ⟨aRun P sum dr k, keepOf P, dr⟩ ⟨run P k, keepOf P⟩ := ⟨rfl, fun f as a fs ts h q => aRun_ok hs k f as a fs ts h q⟩
          exact (defA_ok S hd h q).mono fun t fin p => ⟨p.1, p.2, fun z => absurd z hf⟩
        · cases h
def AS.sub : AS → AS → Bool
  | _, .any => true
  | .fr, .fr => true
  | .v a, .fr => leafy a
  | .v a, .v b => a.sub b
  | _, _ => false
theorem AS.sub_ok {a b : AS} {x : Option OT} (h : a.sub b = true) (q : γS O a x) : γS O b x := by
  unfold AS.sub at h
  split at h
  · exact trivial
  · exact q
  · exact fr_of h q
  · obtain ⟨t, rfl, q⟩ := q; exact ⟨t, rfl, AV.sub_ok h q⟩
  · cases h
def subs : List AS → List AS → Bool
  | [], [] => true
  | a :: as, b :: bs => a.sub b && subs as bs
  | _, _ => false
theorem subs_ok : ∀ {as bs : List AS} {xs : List (Option OT)}, subs as bs = true → F2 (γS O) as xs → F2 (γS O) bs xs
  | [], [], _, _, q => q
  | a :: as, b :: bs, _, h, q => by
    cases q with
    | cons q1 q2 =>
      have h := Bool.and_eq_true_iff.mp h
      exact .cons (AS.sub_ok h.1 q1) (subs_ok h.2 q2)
  | [], _ :: _, _, h, _ => by cases h
  | _ :: _, [], _, h, _ => by cases h
def okRun (P : List Def) (sum : Nat → Nat → List AV → Option (AV × List AS)) (dr k f : Nat) (as : List AV) (b : AV) (gs : List AS) : Bool := match aRun P sum dr k f as with
  | some (a, fs) => a.sub b && subs fs gs
  | none => false
/-- a call by kinds of data -/
theorem ai {P : List Def} {sum : Nat → Nat → List AV → Option (AV × List AS)} {dr k f : Nat} {ts : List OT} {Q : OT → List (Option OT) → Prop} (hs : SumOk O P sum dr) (as : List AV) (b : AV) (gs : List AS) (h : okRun P sum dr k f as b gs = true) (q : F2 (γ O) as ts) (k' : ∀ t fin, γ O b t → F2 (γS O) gs fin → Q t fin) : CallP (run P k f) ts Q := by
  unfold okRun at h
  split at h
  · rename_i a fs hr
    have h := Bool.and_eq_true_iff.mp h
    exact (aRun_ok hs k f as a fs ts hr q).mono fun t fin p => k' t fin (AV.sub_ok h.1 p.1) (subs_ok h.2 p.2.1)
  · cases h
end
end A
end PyI

/-! What a run without arguments gives, told by the kernel. -/
namespace PyI
open PySem
mutual
def eqD : D → D → Bool
  | .none, .none => true
  | .bool a, .bool b => a == b
  | .int a, .int b => decide (a = b)
  | .str a, .str b => decide (a = b)
  | .list a, .list b => eqDs a b
  | .tuple a, .tuple b => eqDs a b
  | _, _ => false
def eqDs : List D → List D → Bool
  | [], [] => true
  | x :: xs, y :: ys => eqD x y && eqDs xs ys
  | _, _ => false
end
mutual
theorem eqD_ok : ∀ (a b : D), eqD a b = true → a = b
  | .none, b, h => by cases b <;> first | rfl | (unfold eqD at h; cases h)
  | .bool x, b, h => by
    cases b <;> unfold eqD at h
    case bool y => rw [eq_of_beq h]
    all_goals cases h
  | .int x, b, h => by
    cases b <;> unfold eqD at h
    case int y => rw [of_decide_eq_true h]
    all_goals cases h
  | .str x, b, h => by
    cases b <;> unfold eqD at h
    case str y => rw [of_decide_eq_true h]
    all_goals cases h
  | .list x, b, h => by
    cases b <;> unfold eqD at h
    case list y => rw [eqDs_ok x y h]
    all_goals cases h
  | .tuple x, b, h => by
    cases b <;> unfold eqD at h
    case tuple y => rw [eqDs_ok x y h]
    all_goals cases h
  | .dict x, b, h => by cases b <;> (unfold eqD at h; cases h)
theorem eqDs_ok : ∀ (a b : List D), eqDs a b = true → a = b
  | [], [], _ => rfl
  | x :: xs, y :: ys, h => by
    unfold eqDs at h
    have h := Bool.and_eq_true_iff.mp h
    rw [eqD_ok x y h.1, eqDs_ok xs ys h.2]
  | [], _ :: _, h => by unfold eqDs at h; cases h
  | _ :: _, [], h => by unfold eqDs at h; cases h
end
/-- a run gives a list of one's own of these data -/
def givesL (P : List Def) (k f : Nat) (xs : List D) : Bool := match run P k f [] with
  | some (.nod none ts, []) => (match leaves ts with
    | some ds => eqDs ds xs
    | none => false)
  | _ => false
theorem leaves_eq : ∀ {ts : List OT} {ds : List D}, leaves ts = some ds → ts = ds.map .leaf
  | [], _, h => by cases h; rfl
  | .leaf d :: r, ds, h => by
    obtain ⟨es, h1, rfl⟩ := Option.map_eq_some_iff.mp (show (leaves r).map (d :: ·) = some ds from h)
    rw [leaves_eq h1]; rfl
  | .nod _ _ :: _, _, h => by cases h
theorem CallP.givesL {P : List Def} {k f : Nat} {xs : List D} {Q : OT → List (Option OT) → Prop} (h : givesL P k f xs = true) (q : Q (.lst (xs.map .leaf)) []) : CallP (run P k f) [] Q := by
  unfold PyI.givesL at h
  split at h
  · rename_i ts hr
    split at h
    · rename_i ds hl
      have := eqDs_ok _ _ h
      subst this
      rw [leaves_eq hl] at hr
      exact ⟨_, _, hr, rfl, q⟩
    · cases h
  · cases h
theorem gv_fix {xs ys : List D} {env : Env} {vs : List Nat} (h : xs = ys) : (Src.fix xs).gives ys env vs := by subst h; exact rfl
theorem sz64 {n : Nat} (h : n ≤ 100000) : n ≤ sizeLine := by rw [sizeLine_eq]; omega
theorem any_eqv {x : Int} : ∀ {l : List Int}, ((l.map PyData.int).any fun z => PyData.eqv z (.int x)) = decide (x ∈ l)
  | [] => by simp
  | y :: r => by
    rw [List.map_cons, List.any_cons, any_eqv, eqv_int]
    by_cases c : y = x
    · subst c; simp
    · have c' : ¬ x = y := fun z => c z.symm
      simp [c, c']
theorem flat_ints {l : List Int} : (l.map PyData.int).all flatD = true := by
  rw [List.all_map]
  exact List.all_eq_true.mpr fun x _ => rfl
theorem InP.tup {x : Int} {l : List Int} {K : Bool → Prop} (k : K (decide (x ∈ l))) : InP (.int x) (.tuple (l.map .int)) K := by
  refine ⟨_, ?_, k⟩
  unfold inSem
  simp only
  rw [if_pos (by rw [flat_ints]; rfl), any_eqv]
theorem InP.lst {x : Int} {l : List Int} {K : Bool → Prop} (k : K (decide (x ∈ l))) : InP (.int x) (.list (l.map .int)) K := by
  refine ⟨_, ?_, k⟩
  unfold inSem
  simp only
  rw [if_pos (by rw [Sp.shaped (n := 1) (Sp.list (Sps.map fun _ _ => Sp.int)) (by decide)]; rfl), any_eqv]
/-- kinds of data decoded -/
theorem A.ints_dec {lo hi : Int} : ∀ {xs : List D}, (∀ x ∈ xs, A.has (.int lo hi) x) → ∃ ns : List Int, xs = ns.map .int ∧ ∀ n ∈ ns, lo ≤ n ∧ n ≤ hi
  | [], _ => ⟨[], rfl, fun _ h => nomatch h⟩
  | x :: r, q => by
    obtain ⟨i, rfl, h1, h2⟩ := q x List.mem_cons_self
    obtain ⟨ns, rfl, h3⟩ := A.ints_dec (xs := r) fun y hy => q y (List.mem_cons_of_mem _ hy)
    exact ⟨i :: ns, rfl, fun n hn => by
      rcases List.mem_cons.mp hn with rfl | hn
      · exact ⟨h1, h2⟩
      · exact h3 n hn⟩
/-- items of one kind decoded -/
theorem A.all_dec {α : Type} {t : A.Ty} {enc : α → D} {ok : α → Prop} (h : ∀ d, A.has t d → ∃ a, d = enc a ∧ ok a) : ∀ {xs : List D}, (∀ x ∈ xs, A.has t x) → ∃ as : List α, xs = as.map enc ∧ ∀ a ∈ as, ok a
  | [], _ => ⟨[], rfl, fun _ h => nomatch h⟩
  | x :: r, q => by
    obtain ⟨a, rfl, h1⟩ := h x (q x List.mem_cons_self)
    obtain ⟨as, rfl, h3⟩ := A.all_dec h (xs := r) fun y hy => q y (List.mem_cons_of_mem _ hy)
    exact ⟨a :: as, rfl, fun n hn => by
      rcases List.mem_cons.mp hn with rfl | hn
      · exact h1
      · exact h3 n hn⟩
/-! parts of sequences -/
theorem cutD_to {xs : List D} (k : Nat) : cutD xs none (some (k : Int)) = xs.take k := by
  unfold cutD
  rw [HT.sIx_none, HT.sIx_nat, List.drop_zero, Nat.sub_zero]
  by_cases c : k ≤ xs.length
  · rw [Nat.min_eq_left c]
  · rw [Nat.min_eq_right (by omega), List.take_of_length_le (Nat.le_refl _), List.take_of_length_le (by omega)]
theorem cutD_from {xs : List D} (k : Nat) : cutD xs (some (k : Int)) none = xs.drop k := by
  unfold cutD
  rw [HT.sIx_none, HT.sIx_nat]
  by_cases c : k ≤ xs.length
  · rw [Nat.min_eq_left c, List.take_of_length_le (by simp)]
  · rw [Nat.min_eq_right (by omega), List.drop_of_length_le (Nat.le_refl _), List.drop_of_length_le (by omega)]; simp
theorem cutD_mid {xs : List D} (i j : Nat) : cutD xs (some (i : Int)) (some (j : Int)) = (xs.drop i).take (j - i) := by
  unfold cutD
  rw [HT.sIx_nat, HT.sIx_nat]
  by_cases c : i ≤ xs.length
  · rw [Nat.min_eq_left c]
    by_cases d : j ≤ xs.length
    · rw [Nat.min_eq_left d]
    · rw [Nat.min_eq_right (by omega), List.take_of_length_le (by simp), List.take_of_length_le (by simp; omega)]
  · rw [Nat.min_eq_right (show xs.length ≤ i by omega), List.drop_of_length_le (Nat.le_refl _), List.drop_of_length_le (by omega)]; simp
theorem cutD_toI {xs : List D} {i : Int} (h : 0 ≤ i) : cutD xs none (some i) = xs.take i.toNat := by
  rw [← cutD_to, Int.toNat_of_nonneg h]
theorem cutD_fromI {xs : List D} {i : Int} (h : 0 ≤ i) : cutD xs (some i) none = xs.drop i.toNat := by
  rw [← cutD_from, Int.toNat_of_nonneg h]
theorem cutD_midI {xs : List D} {i j : Int} (h : 0 ≤ i) (g : 0 ≤ j) : cutD xs (some i) (some j) = (xs.drop i.toNat).take (j.toNat - i.toNat) := by
  rw [← cutD_mid, Int.toNat_of_nonneg h, Int.toNat_of_nonneg g]
/-- a place and its neighbour -/
theorem split_two {α : Type} {t : List α} {k : Nat} (h : k + 1 < t.length) : ∃ A x y B, t = A ++ x :: y :: B ∧ A.length = k := by
  refine ⟨t.take k, t[k], t[k + 1], t.drop (k + 2), ?_, by rw [List.length_take]; omega⟩
  rw [← List.drop_eq_getElem_cons h, ← List.drop_eq_getElem_cons (by omega), List.take_append_drop]
end PyI

namespace PyI.K15
open PySem PySem.Spec PyProof.Rows L2
def E_all_sorts_3 : E := .op .tup (.cons (.var 2) (.cons (.var 3) (.cons (.var 4) .nil)))
def T_all_sorts_3 : T := .nm 4
def C_all_sorts_3 : C := .non
def T_all_sorts_2 : T := .nm 3
def B_all_sorts_2 : Ss := (.cons (.ex (.meth .extend (.var 1) (.cons (.comp E_all_sorts_3 T_all_sorts_3 (.seq (.var 0)) C_all_sorts_3 [("third", 4)]) .nil))) .nil)
def T_all_sorts_1 : T := .nm 2
def B_all_sorts_1 : Ss := (.cons (.loop T_all_sorts_2 (.seq (.var 0)) B_all_sorts_2) .nil)
def b_all_sorts : Ss := (.cons (.asg 0 (.op .lrg (.cons (.op .add (.cons (.c (.int 3)) (.cons (.c (.int 1)) .nil))) .nil))) (.cons (.asg 1 (.op .nil .nil)) (.cons (.loop T_all_sorts_1 (.seq (.var 0)) B_all_sorts_1) (.cons (.ret (.var 1)) .nil))))
def d_all_sorts : Def := { name := "all_sorts", n := 0, N := ["items", "found", "first", "second", "third"], body := b_all_sorts, kws := [(0, [])] }
def E_does_fit_1 : E := .or (.op .isN (.cons (.var 3) .nil)) (.op .isin (.cons (.var 2) (.cons (.var 3) .nil)))
def T_does_fit_1 : T := .tup (.cons (.nm 2) (.cons (.nm 3) .nil))
def C_does_fit_1 : C := .non
def b_does_fit : Ss := (.cons (.ret (.op .all (.cons (.comp E_does_fit_1 T_does_fit_1 (.zip (.var 0) (.op .ix (.cons (.var 1) (.cons (.c (.int 0)) .nil)))) C_does_fit_1 [("item", 2), ("lot", 3)]) .nil))) .nil)
def d_does_fit : Def := { name := "does_fit", n := 2, N := ["sort", "row", "item", "lot"], body := b_does_fit, kws := [(2, [])] }
def T_deciding_1 : T := .tup (.cons (.nm 2) (.cons (.nm 3) .nil))
def B_deciding_1 : Ss := (.cons (.ife (.call 1 (.cons (.var 1) (.cons (.var 3) .nil)) .nil [0, 1]) (.cons (.ret (.var 2)) .nil) .nil) .nil)
def b_deciding : Ss := (.cons (.loop T_deciding_1 (.enum (.var 0)) B_deciding_1) (.cons (.ret (.c .none)) .nil))
def d_deciding : Def := { name := "deciding", n := 2, N := ["table", "sort", "number", "row"], body := b_deciding, kws := [(2, [])] }
def b_priority_of : Ss := (.cons (.asg 2 (.call 2 (.cons (.var 0) (.cons (.var 1) .nil)) .nil [0, 1])) (.cons (.ret (.ite (.op .isN (.cons (.var 2) .nil)) (.c .none) (.op .ix (.cons (.op .ix (.cons (.var 0) (.cons (.var 2) .nil))) (.cons (.c (.int 1)) .nil))))) .nil))
def d_priority_of : Def := { name := "priority_of", n := 2, N := ["table", "sort", "number"], body := b_priority_of, kws := [(2, [])] }
def T_first_unlike_1 : T := .nm 2
def B_first_unlike_1 : Ss := (.cons (.ife (.op .ne (.cons (.call 3 (.cons (.var 0) (.cons (.var 2) .nil)) .nil [0, 1]) (.cons (.call 3 (.cons (.var 1) (.cons (.var 2) .nil)) .nil [0, 1]) .nil))) (.cons (.ret (.var 2)) .nil) .nil) .nil)
def b_first_unlike : Ss := (.cons (.loop T_first_unlike_1 (.seq (.call 0 .nil .nil [])) B_first_unlike_1) (.cons (.ret (.c .none)) .nil))
def d_first_unlike : Def := { name := "first_unlike", n := 2, N := ["one", "other", "sort"], body := b_first_unlike, kws := [(0, ["other", "one"]), (2, [])] }
def E_table_core_1 : E := .call 2 (.cons (.var 0) (.cons (.var 2) .nil)) .nil [0, 1]
def T_table_core_1 : T := .nm 2
def C_table_core_1 : C := .non
def E_table_core_2 : E := .var 4
def T_table_core_2 : T := .tup (.cons (.nm 3) (.cons (.nm 4) .nil))
def C_table_core_2 : C := (.some (.op .isin (.cons (.var 3) (.cons (.var 1) .nil))))
def b_table_core : Ss := (.cons (.asg 1 (.comp E_table_core_1 T_table_core_1 (.seq (.call 0 .nil .nil [])) C_table_core_1 [("sort", 2)])) (.cons (.ret (.op .tuple (.cons (.comp E_table_core_2 T_table_core_2 (.enum (.var 0)) C_table_core_2 [("number", 3), ("row", 4)]) .nil))) .nil))
def d_table_core : Def := { name := "table_core", n := 1, N := ["table", "used", "sort", "number", "row"], body := b_table_core, kws := [(0, ["table"]), (1, [])] }
def E__law_pot_1 : E := .op .add (.cons (.op .mul (.cons (.c (.int 2)) (.cons (.op .abs (.cons (.var 3) .nil)) .nil))) (.cons (.op .int (.cons (.op .lt (.cons (.var 3) (.cons (.c (.int 0)) .nil))) .nil)) .nil))
def T__law_pot_1 : T := .nm 3
def C__law_pot_1 : C := .non
def T__law_pot_2 : T := .nm 3
def B__law_pot_2 : Ss := (.cons (.asg 2 (.op .mod (.cons (.op .int (.cons (.op .add (.cons (.op .add (.cons (.op .mul (.cons (.var 2) (.cons (.c (.int 69069)) .nil))) (.cons (.var 3) .nil))) (.cons (.c (.int 13)) .nil))) .nil)) (.cons (.c (.int 4294967291)) .nil)))) .nil)
def E__law_pot_3 : E := .var 3
def T__law_pot_3 : T := .nm 3
def C__law_pot_3 : C := (.some (.op .ge (.cons (.var 3) (.cons (.op .pow (.cons (.c (.int 10)) (.cons (.c (.int 16)) .nil))) .nil))))
def b__law_pot : Ss := (.cons (.par (.cons (.nm 1) (.cons (.nm 2) .nil)) (.cons (.comp E__law_pot_1 T__law_pot_1 (.seq (.sl (.var 0) .non (.some (.c (.int 61))))) C__law_pot_1 [("cell", 3)]) (.cons (.op .add (.cons (.c (.int 16146)) (.cons (.op .mul (.cons (.c (.int 3)) (.cons (.op .len (.cons (.var 0) .nil)) .nil))) .nil))) .nil))) (.cons (.loop T__law_pot_2 (.seq (.var 1)) B__law_pot_2) (.cons (.ret (.dct [.inr "great", .inr "stirred", .inr "turn"] (.cons (.comp E__law_pot_3 T__law_pot_3 (.seq (.var 1)) C__law_pot_3 [("cell", 3)]) (.cons (.var 2) (.cons (.c (.int 0)) .nil))))) .nil)))
def d__law_pot : Def := { name := "_law_pot", n := 1, N := ["script", "cells", "stirred", "cell"], body := b__law_pot, kws := [(1, [])] }
def b__law_draw : Ss := (.ali 2 0 (.str "great") (.ife (.op .ne (.cons (.var 2) (.cons (.op .nil .nil) .nil))) (.cons (.asg 3 (.meth .popAt (.var 2) (.cons (.c (.int 0)) .nil))) (.cons (.ife (.op .ge (.cons (.var 3) (.cons (.var 1) .nil))) (.cons (.ex (.meth .insert (.var 2) (.cons (.c (.int 0)) (.cons (.op .fdiv (.cons (.var 3) (.cons (.var 1) .nil))) .nil)))) .nil) .nil) (.cons (.ret (.op .mod (.cons (.op .int (.cons (.var 3) .nil)) (.cons (.var 1) .nil)))) .nil))) .nil) (.cons (.put (.var 0) (.c (.str "turn")) (.op .add (.cons (.op .ix (.cons (.var 0) (.cons (.c (.str "turn")) .nil))) (.cons (.c (.int 1)) .nil)))) (.cons (.asg 4 (.op .ix (.cons (.var 0) (.cons (.c (.str "turn")) .nil)))) (.cons (.asg 5 (.op .mod (.cons (.op .int (.cons (.op .add (.cons (.op .add (.cons (.op .mul (.cons (.op .ix (.cons (.var 0) (.cons (.c (.str "stirred")) .nil))) (.cons (.c (.int 48271)) .nil))) (.cons (.op .mul (.cons (.op .mul (.cons (.var 4) (.cons (.var 4) .nil))) (.cons (.c (.int 17)) .nil))) .nil))) (.cons (.op .mul (.cons (.c (.int 7919)) (.cons (.var 4) .nil))) .nil))) .nil)) (.cons (.c (.int 4294967279)) .nil)))) (.cons (.asg 5 (.op .mod (.cons (.op .int (.cons (.op .add (.cons (.op .mul (.cons (.var 5) (.cons (.c (.int 69621)) .nil))) (.cons (.op .fdiv (.cons (.var 5) (.cons (.c (.int 65536)) .nil))) .nil))) .nil)) (.cons (.c (.int 4294967291)) .nil)))) (.cons (.put (.var 0) (.c (.str "stirred")) (.var 5)) (.cons (.ret (.op .mod (.cons (.op .int (.cons (.op .fdiv (.cons (.var 5) (.cons (.c (.int 1024)) .nil))) .nil)) (.cons (.var 1) .nil)))) .nil)))))))
def d__law_draw : Def := { name := "_law_draw", n := 2, N := ["pot", "many", "great", "cell", "turn", "mixed"], body := b__law_draw, kws := [(2, [])] }
def b__law_pick : Ss := (.cons (.ret (.op .ix (.cons (.var 1) (.cons (.call 7 (.cons (.var 0) (.cons (.op .len (.cons (.var 1) .nil)) .nil)) .nil [0, 1]) .nil)))) .nil)
def d__law_pick : Def := { name := "_law_pick", n := 2, N := ["pot", "row"], body := b__law_pick, kws := [(2, [])] }
def b__law_with : Ss := (.cons (.ret (.op .add (.cons (.op .add (.cons (.sl (.var 0) .non (.some (.var 1))) (.cons (.op .tup (.cons (.var 2) .nil)) .nil))) (.cons (.sl (.var 0) (.some (.op .add (.cons (.var 1) (.cons (.c (.int 1)) .nil)))) .non) .nil)))) .nil)
def d__law_with : Def := { name := "_law_with", n := 3, N := ["row", "spot", "item"], body := b__law_with, kws := [(3, [])] }
def E__law_lot_1 : E := .var 3
def T__law_lot_1 : T := .nm 3
def C__law_lot_1 : C := (.some (.op .eq (.cons (.call 7 (.cons (.var 0) (.cons (.c (.int 2)) .nil)) .nil [0, 1]) (.cons (.c (.int 0)) .nil))))
def b__law_lot : Ss := (.cons (.asg 2 (.comp E__law_lot_1 T__law_lot_1 (.range (.cons (.var 1) .nil)) C__law_lot_1 [("k", 3)])) (.cons (.ret (.ite (.op .ne (.cons (.var 2) (.cons (.op .nil .nil) .nil))) (.op .tuple (.cons (.var 2) .nil)) (.op .tup (.cons (.call 7 (.cons (.var 0) (.cons (.var 1) .nil)) .nil [0, 1]) .nil)))) .nil))
def d__law_lot : Def := { name := "_law_lot", n := 2, N := ["pot", "many", "found", "k"], body := b__law_lot, kws := [(2, [])] }
def E__law_table_2 : E := .ite (.op .eq (.cons (.call 7 (.cons (.var 0) (.cons (.c (.int 2)) .nil)) .nil [0, 1]) (.cons (.c (.int 0)) .nil))) (.c .none) (.call 10 (.cons (.var 0) (.cons (.c (.int 4)) .nil)) .nil [0, 1])
def T__law_table_2 : T := .nm 5
def C__law_table_2 : C := .non
def T__law_table_1 : T := .nm 3
def B__law_table_1 : Ss := (.cons (.asg 4 (.op .tuple (.cons (.comp E__law_table_2 T__law_table_2 (.range (.cons (.c (.int 3)) .nil)) C__law_table_2 [("field", 5)]) .nil))) (.cons (.ife (.op .eq (.cons (.call 7 (.cons (.var 0) (.cons (.c (.int 6)) .nil)) .nil [0, 1]) (.cons (.c (.int 0)) .nil))) (.cons (.asg 4 (.op .tup (.cons (.c .none) (.cons (.c .none) (.cons (.call 8 (.cons (.var 0) (.cons (.op .lst (.cons (.c .none) (.cons (.op .tup (.cons (.c (.int 0)) (.cons (.c (.int 1)) (.cons (.c (.int 2)) (.cons (.c (.int 3)) .nil))))) (.cons (.op .tup (.cons (.c (.int 1)) (.cons (.c (.int 2)) .nil))) .nil)))) .nil)) .nil [0, 1]) .nil))))) .nil) .nil) (.cons (.ex (.meth .append (.var 2) (.cons (.op .tup (.cons (.var 4) (.cons (.call 7 (.cons (.var 0) (.cons (.c (.int 5)) .nil)) .nil [0, 1]) .nil))) .nil))) .nil)))
def b__law_table : Ss := (.cons (.asg 2 (.op .nil .nil)) (.cons (.loop T__law_table_1 (.range (.cons (.call 7 (.cons (.var 0) (.cons (.op .add (.cons (.var 1) (.cons (.c (.int 1)) .nil))) .nil)) .nil [0, 1]) .nil)) B__law_table_1) (.cons (.ife (.and (.op .ne (.cons (.var 2) (.cons (.op .nil .nil) .nil))) (.op .eq (.cons (.call 7 (.cons (.var 0) (.cons (.c (.int 3)) .nil)) .nil [0, 1]) (.cons (.c (.int 0)) .nil)))) (.cons (.ex (.meth .append (.var 2) (.cons (.op .ix (.cons (.var 2) (.cons (.call 7 (.cons (.var 0) (.cons (.op .len (.cons (.var 2) .nil)) .nil)) .nil [0, 1]) .nil))) .nil))) .nil) .nil) (.cons (.ret (.op .tuple (.cons (.sl (.var 2) .non (.some (.c (.int 12)))) .nil))) .nil))))
def d__law_table : Def := { name := "_law_table", n := 2, N := ["pot", "most", "found", "k", "lots", "field"], body := b__law_table, kws := [(2, [])] }
def E__law_fits_1 : E := .c (.int 0)
def T__law_fits_1 : T := .tup (.cons (.nm 2) (.cons (.nm 3) .nil))
def C__law_fits_1 : C := (.some (.and (.op .notN (.cons (.var 2) .nil)) (.op .notin (.cons (.var 3) (.cons (.var 2) .nil)))))
def b__law_fits : Ss := (.cons (.ret (.op .eq (.cons (.comp E__law_fits_1 T__law_fits_1 (.zip (.op .ix (.cons (.var 0) (.cons (.c (.int 0)) .nil))) (.var 1)) C__law_fits_1 [("lot", 2), ("own", 3)]) (.cons (.op .nil .nil) .nil)))) .nil)
def d__law_fits : Def := { name := "_law_fits", n := 2, N := ["row", "sort", "lot", "own"], body := b__law_fits, kws := [(2, [])] }
def T__law_sorts_1 : T := .nm 1
def B__law_sorts_1 : Ss := (.cons (.ex (.meth .append (.var 0) (.cons (.op .tup (.cons (.op .fdiv (.cons (.var 1) (.cons (.c (.int 16)) .nil))) (.cons (.op .mod (.cons (.op .fdiv (.cons (.var 1) (.cons (.c (.int 4)) .nil))) (.cons (.c (.int 4)) .nil))) (.cons (.op .mod (.cons (.var 1) (.cons (.c (.int 4)) .nil))) .nil)))) .nil))) .nil)
def b__law_sorts : Ss := (.cons (.asg 0 (.op .nil .nil)) (.cons (.loop T__law_sorts_1 (.range (.cons (.c (.int 64)) .nil)) B__law_sorts_1) (.cons (.ret (.var 0)) .nil)))
def d__law_sorts : Def := { name := "_law_sorts", n := 0, N := ["found", "k"], body := b__law_sorts, kws := [(0, [])] }
def T__law_deciding_1 : T := .tup (.cons (.nm 2) (.cons (.nm 3) .nil))
def B__law_deciding_1 : Ss := (.cons (.ife (.call 12 (.cons (.var 3) (.cons (.var 1) .nil)) .nil [0, 1]) (.cons (.ret (.var 2)) .nil) .nil) .nil)
def b__law_deciding : Ss := (.cons (.loop T__law_deciding_1 (.enum (.var 0)) B__law_deciding_1) (.cons (.ret (.c .none)) .nil))
def d__law_deciding : Def := { name := "_law_deciding", n := 2, N := ["table", "sort", "k", "row"], body := b__law_deciding, kws := [(2, [])] }
def b__law_priority : Ss := (.cons (.asg 2 (.call 14 (.cons (.var 0) (.cons (.var 1) .nil)) .nil [0, 1])) (.cons (.ret (.ite (.op .isN (.cons (.var 2) .nil)) (.c .none) (.op .ix (.cons (.op .ix (.cons (.var 0) (.cons (.var 2) .nil))) (.cons (.c (.int 1)) .nil))))) .nil))
def d__law_priority : Def := { name := "_law_priority", n := 2, N := ["table", "sort", "k"], body := b__law_priority, kws := [(2, [])] }
def E__law_unlike_1 : E := .var 3
def T__law_unlike_1 : T := .nm 3
def C__law_unlike_1 : C := (.some (.op .ne (.cons (.call 15 (.cons (.var 0) (.cons (.var 3) .nil)) .nil [0, 1]) (.cons (.call 15 (.cons (.var 1) (.cons (.var 3) .nil)) .nil [0, 1]) .nil))))
def b__law_unlike : Ss := (.cons (.asg 2 (.comp E__law_unlike_1 T__law_unlike_1 (.seq (.call 13 .nil .nil [])) C__law_unlike_1 [("sort", 3)])) (.cons (.ret (.ite (.op .ne (.cons (.var 2) (.cons (.op .nil .nil) .nil))) (.op .ix (.cons (.var 2) (.cons (.c (.int 0)) .nil))) (.c .none))) .nil))
def d__law_unlike : Def := { name := "_law_unlike", n := 2, N := ["one", "other", "some", "sort"], body := b__law_unlike, kws := [(2, [])] }
def b__law_near : Ss := (.cons (.ife (.op .eq (.cons (.var 1) (.cons (.op .tup .nil) .nil))) (.cons (.ret (.call 11 (.cons (.var 0) (.cons (.c (.int 2)) .nil)) .nil [0, 1])) .nil) .nil) (.cons (.asg 2 (.call 7 (.cons (.var 0) (.cons (.op .len (.cons (.var 1) .nil)) .nil)) .nil [0, 1])) (.cons (.asg 3 (.op .lst (.cons (.op .add (.cons (.sl (.var 1) .non (.some (.var 2))) (.cons (.sl (.var 1) (.some (.op .add (.cons (.var 2) (.cons (.c (.int 1)) .nil)))) .non) .nil))) (.cons (.op .add (.cons (.op .add (.cons (.op .add (.cons (.sl (.var 1) .non (.some (.var 2))) (.cons (.sl (.var 1) (.some (.op .add (.cons (.var 2) (.cons (.c (.int 1)) .nil)))) (.some (.op .add (.cons (.var 2) (.cons (.c (.int 2)) .nil))))) .nil))) (.cons (.sl (.var 1) (.some (.var 2)) (.some (.op .add (.cons (.var 2) (.cons (.c (.int 1)) .nil))))) .nil))) (.cons (.sl (.var 1) (.some (.op .add (.cons (.var 2) (.cons (.c (.int 2)) .nil)))) .non) .nil))) .nil)))) (.cons (.ex (.meth .append (.var 3) (.cons (.call 9 (.cons (.var 1) (.cons (.var 2) (.cons (.op .tup (.cons (.op .ix (.cons (.op .ix (.cons (.var 1) (.cons (.var 2) .nil))) (.cons (.c (.int 0)) .nil))) (.cons (.call 7 (.cons (.var 0) (.cons (.c (.int 5)) .nil)) .nil [0, 1]) .nil))) .nil))) .nil [0, 1, 2]) .nil))) (.cons (.ex (.meth .append (.var 3) (.cons (.sl (.op .add (.cons (.op .add (.cons (.sl (.var 1) .non (.some (.var 2))) (.cons (.call 11 (.cons (.var 0) (.cons (.c (.int 1)) .nil)) .nil [0, 1]) .nil))) (.cons (.sl (.var 1) (.some (.var 2)) .non) .nil))) .non (.some (.c (.int 12)))) .nil))) (.cons (.ret (.call 8 (.cons (.var 0) (.cons (.op .add (.cons (.var 3) (.cons (.op .lst (.cons (.sl (.op .add (.cons (.var 1) (.cons (.call 11 (.cons (.var 0) (.cons (.c (.int 3)) .nil)) .nil [0, 1]) .nil))) .non (.some (.c (.int 12)))) .nil)) .nil))) .nil)) .nil [0, 1])) .nil))))))
def d__law_near : Def := { name := "_law_near", n := 2, N := ["pot", "table", "k", "some"], body := b__law_near, kws := [(2, [])] }
def T__law_may_change_1 : T := .nm 2
def B__law_may_change_1 : Ss := (.cons (.ife (.and (.call 12 (.cons (.op .ix (.cons (.var 0) (.cons (.var 1) .nil))) (.cons (.var 2) .nil)) .nil [0, 1]) (.and (.call 12 (.cons (.op .ix (.cons (.var 0) (.cons (.op .add (.cons (.var 1) (.cons (.c (.int 1)) .nil))) .nil))) (.cons (.var 2) .nil)) .nil [0, 1]) (.op .isN (.cons (.call 14 (.cons (.sl (.var 0) .non (.some (.var 1))) (.cons (.var 2) .nil)) .nil [0, 1]) .nil)))) (.cons (.ret (.c (.bool false))) .nil) .nil) .nil)
def b__law_may_change : Ss := (.cons (.ife (.op .eq (.cons (.op .ix (.cons (.op .ix (.cons (.var 0) (.cons (.var 1) .nil))) (.cons (.c (.int 1)) .nil))) (.cons (.op .ix (.cons (.op .ix (.cons (.var 0) (.cons (.op .add (.cons (.var 1) (.cons (.c (.int 1)) .nil))) .nil))) (.cons (.c (.int 1)) .nil))) .nil))) (.cons (.ret (.c (.bool true))) .nil) .nil) (.cons (.loop T__law_may_change_1 (.seq (.call 13 .nil .nil [])) B__law_may_change_1) (.cons (.ret (.c (.bool true))) .nil)))
def d__law_may_change : Def := { name := "_law_may_change", n := 2, N := ["table", "k", "sort"], body := b__law_may_change, kws := [(2, [])] }
def E_law_2 : E := .call 14 (.cons (.var 3) (.cons (.var 11) .nil)) .nil [0, 1]
def T_law_2 : T := .nm 11
def C_law_2 : C := .non
def E_law_3 : E := .var 12
def T_law_3 : T := .tup (.cons (.nm 10) (.cons (.nm 12) .nil))
def C_law_3 : C := (.some (.op .isin (.cons (.var 10) (.cons (.var 5) .nil))))
def T_law_4 : T := .nm 7
def B_law_4 : Ss := (.cons (.asg 8 (.call 17 (.cons (.var 1) (.cons (.var 3) .nil)) .nil [0, 1])) (.cons (.asg 9 (.call 16 (.cons (.var 3) (.cons (.var 8) .nil)) .nil [0, 1])) (.cons (.ife (.op .ne (.cons (.op .repr (.cons (.op .lst (.cons (.call 4 (.cons (.var 3) (.cons (.var 8) .nil)) .nil [0, 1]) (.cons (.call 4 .nil (.cons (.var 8) (.cons (.var 3) .nil)) [1, 0]) .nil))) .nil)) (.cons (.op .repr (.cons (.op .lst (.cons (.var 9) (.cons (.var 9) .nil))) .nil)) .nil))) (.cons (.ret (.c (.bool false))) .nil) .nil) (.cons (.ife (.op .ne (.cons (.op .repr (.cons (.call 4 (.cons (.var 8) (.cons (.var 3) .nil)) .nil [0, 1]) .nil)) (.cons (.op .repr (.cons (.var 9) .nil)) .nil))) (.cons (.ret (.c (.bool false))) .nil) .nil) .nil))))
def T_law_1 : T := .nm 2
def B_law_1 : Ss := (.cons (.asg 3 (.call 11 (.cons (.var 1) (.cons (.c (.int 12)) .nil)) .nil [0, 1])) (.cons (.asg 4 (.op .repr (.cons (.var 3) .nil))) (.cons (.asg 5 (.comp E_law_2 T_law_2 (.seq (.call 13 .nil .nil [])) C_law_2 [("sort", 11)])) (.cons (.asg 6 (.op .tuple (.cons (.comp E_law_3 T_law_3 (.enum (.var 3)) C_law_3 [("k", 10), ("row", 12)]) .nil))) (.cons (.ife (.op .ne (.cons (.op .repr (.cons (.op .lst (.cons (.call 5 (.cons (.var 3) .nil) .nil [0]) (.cons (.call 5 .nil (.cons (.var 3) .nil) [0]) (.cons (.call 5 (.cons (.var 6) .nil) .nil [0]) .nil)))) .nil)) (.cons (.op .repr (.cons (.op .lst (.cons (.var 6) (.cons (.var 6) (.cons (.var 6) .nil)))) .nil)) .nil))) (.cons (.ret (.c (.bool false))) .nil) .nil) (.cons (.ife (.op .notN (.cons (.call 4 (.cons (.var 3) (.cons (.var 6) .nil)) .nil [0, 1]) .nil)) (.cons (.ret (.c (.bool false))) .nil) .nil) (.cons (.loop T_law_4 (.range (.cons (.c (.int 2)) .nil)) B_law_4) (.cons (.ife (.op .gt (.cons (.op .len (.cons (.var 3) .nil)) (.cons (.c (.int 1)) .nil))) (.cons (.asg 10 (.call 7 (.cons (.var 1) (.cons (.op .sub (.cons (.op .len (.cons (.var 3) .nil)) (.cons (.c (.int 1)) .nil))) .nil)) .nil [0, 1])) (.cons (.asg 8 (.op .add (.cons (.op .add (.cons (.sl (.var 3) .non (.some (.var 10))) (.cons (.op .tup (.cons (.op .ix (.cons (.var 3) (.cons (.op .add (.cons (.var 10) (.cons (.c (.int 1)) .nil))) .nil))) (.cons (.op .ix (.cons (.var 3) (.cons (.var 10) .nil))) .nil))) .nil))) (.cons (.sl (.var 3) (.some (.op .add (.cons (.var 10) (.cons (.c (.int 2)) .nil)))) .non) .nil)))) (.cons (.ife (.op .ne (.cons (.op .isN (.cons (.call 4 (.cons (.var 3) (.cons (.var 8) .nil)) .nil [0, 1]) .nil)) (.cons (.call 18 (.cons (.var 3) (.cons (.var 10) .nil)) .nil [0, 1]) .nil))) (.cons (.ret (.c (.bool false))) .nil) .nil) .nil))) .nil) (.cons (.ife (.op .ne (.cons (.op .repr (.cons (.var 3) .nil)) (.cons (.var 4) .nil))) (.cons (.ret (.c (.bool false))) .nil) .nil) .nil)))))))))
def b_law : Ss := (.cons (.asg 1 (.call 6 (.cons (.var 0) .nil) .nil [0])) (.cons (.loop T_law_1 (.range (.cons (.c (.int 2)) .nil)) B_law_1) (.cons (.ret (.c (.bool true))) .nil)))
def d_law : Def := { name := "law", n := 1, N := ["script", "pot", "turn", "table", "kept", "reached", "core", "again", "other", "due", "k", "sort", "row"], body := b_law, kws := [(1, [])] }
def g_MAX_FIELD : Def := { name := "MAX_FIELD", n := 0, N := [], body := .nil, const := some (.int 3) }
abbrev i_all_sorts : Nat := 0
abbrev i_does_fit : Nat := 1
abbrev i_deciding : Nat := 2
abbrev i_priority_of : Nat := 3
abbrev i_first_unlike : Nat := 4
abbrev i_table_core : Nat := 5
abbrev i__law_pot : Nat := 6
abbrev i__law_draw : Nat := 7
abbrev i__law_pick : Nat := 8
abbrev i__law_with : Nat := 9
abbrev i__law_lot : Nat := 10
abbrev i__law_table : Nat := 11
abbrev i__law_fits : Nat := 12
abbrev i__law_sorts : Nat := 13
abbrev i__law_deciding : Nat := 14
abbrev i__law_priority : Nat := 15
abbrev i__law_unlike : Nat := 16
abbrev i__law_near : Nat := 17
abbrev i__law_may_change : Nat := 18
abbrev i_law : Nat := 19
def P0 : List Def := [d_all_sorts, d_does_fit, d_deciding, d_priority_of, d_first_unlike, d_table_core, d__law_pot, d__law_draw, d__law_pick, d__law_with, d__law_lot, d__law_table, d__law_fits, d__law_sorts, d__law_deciding, d__law_priority, d__law_unlike, d__law_near, d__law_may_change, d_law, g_MAX_FIELD]
def topS (i : Nat) : Stmt := PySem.Challenge.pw_deskhours_k15_whole_main_tables_alike.main.body.getD i (.Pass ⟨0, 0, 0, 0⟩)
abbrev s_all_sorts : Stmt := topS 2
theorem sc_all_sorts : scB d_all_sorts.N d_all_sorts.n (defScope s_all_sorts) = true := by decide +kernel
theorem ck_all_sorts : chkSs P0 d_all_sorts.N (defScope s_all_sorts) d_all_sorts.body (defBody s_all_sorts) = true := by decide +kernel
theorem bd_all_sorts {K : PySem.W.Frag} (kV doc pm : Value) (an : Option Addr) (cdv ct : Value) : DefBind K d_all_sorts (PySem.W.fnOf "all_sorts" "all_sorts" (defArgs s_all_sorts) (defBody s_all_sorts) (defScope s_all_sorts) .none kV doc pm an cdv ct) := by
  refine ⟨fun s npos ks us ws vals h hu hw hp => ?_⟩
  simp only [d_all_sorts, List.mem_cons, List.not_mem_nil, or_false, Prod.mk.injEq] at h
  rcases h with ⟨rfl, rfl⟩
  · match us, ws, hu, hw with
    | [], [], _, _ => cases hp; exact .of_eq rfl
abbrev s_does_fit : Stmt := topS 3
theorem sc_does_fit : scB d_does_fit.N d_does_fit.n (defScope s_does_fit) = true := by decide +kernel
theorem ck_does_fit : chkSs P0 d_does_fit.N (defScope s_does_fit) d_does_fit.body (defBody s_does_fit) = true := by decide +kernel
theorem bd_does_fit {K : PySem.W.Frag} (kV doc pm : Value) (an : Option Addr) (cdv ct : Value) : DefBind K d_does_fit (PySem.W.fnOf "does_fit" "does_fit" (defArgs s_does_fit) (defBody s_does_fit) (defScope s_does_fit) .none kV doc pm an cdv ct) := by
  refine ⟨fun s npos ks us ws vals h hu hw hp => ?_⟩
  simp only [d_does_fit, List.mem_cons, List.not_mem_nil, or_false, Prod.mk.injEq] at h
  rcases h with ⟨rfl, rfl⟩
  · match us, ws, hu, hw with
    | [u0, u1], [], _, _ => cases hp; exact .of_eq rfl
abbrev s_deciding : Stmt := topS 4
theorem sc_deciding : scB d_deciding.N d_deciding.n (defScope s_deciding) = true := by decide +kernel
theorem ck_deciding : chkSs P0 d_deciding.N (defScope s_deciding) d_deciding.body (defBody s_deciding) = true := by decide +kernel
theorem bd_deciding {K : PySem.W.Frag} (kV doc pm : Value) (an : Option Addr) (cdv ct : Value) : DefBind K d_deciding (PySem.W.fnOf "deciding" "deciding" (defArgs s_deciding) (defBody s_deciding) (defScope s_deciding) .none kV doc pm an cdv ct) := by
  refine ⟨fun s npos ks us ws vals h hu hw hp => ?_⟩
  simp only [d_deciding, List.mem_cons, List.not_mem_nil, or_false, Prod.mk.injEq] at h
  rcases h with ⟨rfl, rfl⟩
  · match us, ws, hu, hw with
    | [u0, u1], [], _, _ => cases hp; exact .of_eq rfl
abbrev s_priority_of : Stmt := topS 5
theorem sc_priority_of : scB d_priority_of.N d_priority_of.n (defScope s_priority_of) = true := by decide +kernel
theorem ck_priority_of : chkSs P0 d_priority_of.N (defScope s_priority_of) d_priority_of.body (defBody s_priority_of) = true := by decide +kernel
theorem bd_priority_of {K : PySem.W.Frag} (kV doc pm : Value) (an : Option Addr) (cdv ct : Value) : DefBind K d_priority_of (PySem.W.fnOf "priority_of" "priority_of" (defArgs s_priority_of) (defBody s_priority_of) (defScope s_priority_of) .none kV doc pm an cdv ct) := by
  refine ⟨fun s npos ks us ws vals h hu hw hp => ?_⟩
  simp only [d_priority_of, List.mem_cons, List.not_mem_nil, or_false, Prod.mk.injEq] at h
  rcases h with ⟨rfl, rfl⟩
  · match us, ws, hu, hw with
    | [u0, u1], [], _, _ => cases hp; exact .of_eq rfl
abbrev s_first_unlike : Stmt := topS 6
theorem sc_first_unlike : scB d_first_unlike.N d_first_unlike.n (defScope s_first_unlike) = true := by decide +kernel
theorem ck_first_unlike : chkSs P0 d_first_unlike.N (defScope s_first_unlike) d_first_unlike.body (defBody s_first_unlike) = true := by decide +kernel
theorem bd_first_unlike {K : PySem.W.Frag} (kV doc pm : Value) (an : Option Addr) (cdv ct : Value) : DefBind K d_first_unlike (PySem.W.fnOf "first_unlike" "first_unlike" (defArgs s_first_unlike) (defBody s_first_unlike) (defScope s_first_unlike) .none kV doc pm an cdv ct) := by
  refine ⟨fun s npos ks us ws vals h hu hw hp => ?_⟩
  simp only [d_first_unlike, List.mem_cons, List.not_mem_nil, or_false, Prod.mk.injEq] at h
  rcases h with ⟨rfl, rfl⟩ | ⟨rfl, rfl⟩
  · match us, ws, hu, hw with
    | [], [w0, w1], _, _ => cases hp; exact .of_eq rfl
  · match us, ws, hu, hw with
    | [u0, u1], [], _, _ => cases hp; exact .of_eq rfl
abbrev s_table_core : Stmt := topS 7
theorem sc_table_core : scB d_table_core.N d_table_core.n (defScope s_table_core) = true := by decide +kernel
theorem ck_table_core : chkSs P0 d_table_core.N (defScope s_table_core) d_table_core.body (defBody s_table_core) = true := by decide +kernel
theorem bd_table_core {K : PySem.W.Frag} (kV doc pm : Value) (an : Option Addr) (cdv ct : Value) : DefBind K d_table_core (PySem.W.fnOf "table_core" "table_core" (defArgs s_table_core) (defBody s_table_core) (defScope s_table_core) .none kV doc pm an cdv ct) := by
  refine ⟨fun s npos ks us ws vals h hu hw hp => ?_⟩
  simp only [d_table_core, List.mem_cons, List.not_mem_nil, or_false, Prod.mk.injEq] at h
  rcases h with ⟨rfl, rfl⟩ | ⟨rfl, rfl⟩
  · match us, ws, hu, hw with
    | [], [w0], _, _ => cases hp; exact .of_eq rfl
  · match us, ws, hu, hw with
    | [u0], [], _, _ => cases hp; exact .of_eq rfl
abbrev s__law_pot : Stmt := topS 9
theorem sc__law_pot : scB d__law_pot.N d__law_pot.n (defScope s__law_pot) = true := by decide +kernel
theorem ck__law_pot : chkSs P0 d__law_pot.N (defScope s__law_pot) d__law_pot.body (defBody s__law_pot) = true := by decide +kernel
theorem bd__law_pot {K : PySem.W.Frag} (kV doc pm : Value) (an : Option Addr) (cdv ct : Value) : DefBind K d__law_pot (PySem.W.fnOf "_law_pot" "_law_pot" (defArgs s__law_pot) (defBody s__law_pot) (defScope s__law_pot) .none kV doc pm an cdv ct) := by
  refine ⟨fun s npos ks us ws vals h hu hw hp => ?_⟩
  simp only [d__law_pot, List.mem_cons, List.not_mem_nil, or_false, Prod.mk.injEq] at h
  rcases h with ⟨rfl, rfl⟩
  · match us, ws, hu, hw with
    | [u0], [], _, _ => cases hp; exact .of_eq rfl
abbrev s__law_draw : Stmt := topS 10
theorem sc__law_draw : scB d__law_draw.N d__law_draw.n (defScope s__law_draw) = true := by decide +kernel
theorem ck__law_draw : chkSs P0 d__law_draw.N (defScope s__law_draw) d__law_draw.body (defBody s__law_draw) = true := by decide +kernel
theorem bd__law_draw {K : PySem.W.Frag} (kV doc pm : Value) (an : Option Addr) (cdv ct : Value) : DefBind K d__law_draw (PySem.W.fnOf "_law_draw" "_law_draw" (defArgs s__law_draw) (defBody s__law_draw) (defScope s__law_draw) .none kV doc pm an cdv ct) := by
  refine ⟨fun s npos ks us ws vals h hu hw hp => ?_⟩
  simp only [d__law_draw, List.mem_cons, List.not_mem_nil, or_false, Prod.mk.injEq] at h
  rcases h with ⟨rfl, rfl⟩
  · match us, ws, hu, hw with
    | [u0, u1], [], _, _ => cases hp; exact .of_eq rfl
abbrev s__law_pick : Stmt := topS 11
theorem sc__law_pick : scB d__law_pick.N d__law_pick.n (defScope s__law_pick) = true := by decide +kernel
theorem ck__law_pick : chkSs P0 d__law_pick.N (defScope s__law_pick) d__law_pick.body (defBody s__law_pick) = true := by decide +kernel
theorem bd__law_pick {K : PySem.W.Frag} (kV doc pm : Value) (an : Option Addr) (cdv ct : Value) : DefBind K d__law_pick (PySem.W.fnOf "_law_pick" "_law_pick" (defArgs s__law_pick) (defBody s__law_pick) (defScope s__law_pick) .none kV doc pm an cdv ct) := by
  refine ⟨fun s npos ks us ws vals h hu hw hp => ?_⟩
  simp only [d__law_pick, List.mem_cons, List.not_mem_nil, or_false, Prod.mk.injEq] at h
  rcases h with ⟨rfl, rfl⟩
  · match us, ws, hu, hw with
    | [u0, u1], [], _, _ => cases hp; exact .of_eq rfl
abbrev s__law_with : Stmt := topS 12
theorem sc__law_with : scB d__law_with.N d__law_with.n (defScope s__law_with) = true := by decide +kernel
theorem ck__law_with : chkSs P0 d__law_with.N (defScope s__law_with) d__law_with.body (defBody s__law_with) = true := by decide +kernel
theorem bd__law_with {K : PySem.W.Frag} (kV doc pm : Value) (an : Option Addr) (cdv ct : Value) : DefBind K d__law_with (PySem.W.fnOf "_law_with" "_law_with" (defArgs s__law_with) (defBody s__law_with) (defScope s__law_with) .none kV doc pm an cdv ct) := by
  refine ⟨fun s npos ks us ws vals h hu hw hp => ?_⟩
  simp only [d__law_with, List.mem_cons, List.not_mem_nil, or_false, Prod.mk.injEq] at h
  rcases h with ⟨rfl, rfl⟩
  · match us, ws, hu, hw with
    | [u0, u1, u2], [], _, _ => cases hp; exact .of_eq rfl
abbrev s__law_lot : Stmt := topS 13
theorem sc__law_lot : scB d__law_lot.N d__law_lot.n (defScope s__law_lot) = true := by decide +kernel
theorem ck__law_lot : chkSs P0 d__law_lot.N (defScope s__law_lot) d__law_lot.body (defBody s__law_lot) = true := by decide +kernel
theorem bd__law_lot {K : PySem.W.Frag} (kV doc pm : Value) (an : Option Addr) (cdv ct : Value) : DefBind K d__law_lot (PySem.W.fnOf "_law_lot" "_law_lot" (defArgs s__law_lot) (defBody s__law_lot) (defScope s__law_lot) .none kV doc pm an cdv ct) := by
  refine ⟨fun s npos ks us ws vals h hu hw hp => ?_⟩
  simp only [d__law_lot, List.mem_cons, List.not_mem_nil, or_false, Prod.mk.injEq] at h
  rcases h with ⟨rfl, rfl⟩
  · match us, ws, hu, hw with
    | [u0, u1], [], _, _ => cases hp; exact .of_eq rfl
abbrev s__law_table : Stmt := topS 14
theorem sc__law_table : scB d__law_table.N d__law_table.n (defScope s__law_table) = true := by decide +kernel
theorem ck__law_table : chkSs P0 d__law_table.N (defScope s__law_table) d__law_table.body (defBody s__law_table) = true := by decide +kernel
theorem bd__law_table {K : PySem.W.Frag} (kV doc pm : Value) (an : Option Addr) (cdv ct : Value) : DefBind K d__law_table (PySem.W.fnOf "_law_table" "_law_table" (defArgs s__law_table) (defBody s__law_table) (defScope s__law_table) .none kV doc pm an cdv ct) := by
  refine ⟨fun s npos ks us ws vals h hu hw hp => ?_⟩
  simp only [d__law_table, List.mem_cons, List.not_mem_nil, or_false, Prod.mk.injEq] at h
  rcases h with ⟨rfl, rfl⟩
  · match us, ws, hu, hw with
    | [u0, u1], [], _, _ => cases hp; exact .of_eq rfl
abbrev s__law_fits : Stmt := topS 15
theorem sc__law_fits : scB d__law_fits.N d__law_fits.n (defScope s__law_fits) = true := by decide +kernel
theorem ck__law_fits : chkSs P0 d__law_fits.N (defScope s__law_fits) d__law_fits.body (defBody s__law_fits) = true := by decide +kernel
theorem bd__law_fits {K : PySem.W.Frag} (kV doc pm : Value) (an : Option Addr) (cdv ct : Value) : DefBind K d__law_fits (PySem.W.fnOf "_law_fits" "_law_fits" (defArgs s__law_fits) (defBody s__law_fits) (defScope s__law_fits) .none kV doc pm an cdv ct) := by
  refine ⟨fun s npos ks us ws vals h hu hw hp => ?_⟩
  simp only [d__law_fits, List.mem_cons, List.not_mem_nil, or_false, Prod.mk.injEq] at h
  rcases h with ⟨rfl, rfl⟩
  · match us, ws, hu, hw with
    | [u0, u1], [], _, _ => cases hp; exact .of_eq rfl
abbrev s__law_sorts : Stmt := topS 16
theorem sc__law_sorts : scB d__law_sorts.N d__law_sorts.n (defScope s__law_sorts) = true := by decide +kernel
theorem ck__law_sorts : chkSs P0 d__law_sorts.N (defScope s__law_sorts) d__law_sorts.body (defBody s__law_sorts) = true := by decide +kernel
theorem bd__law_sorts {K : PySem.W.Frag} (kV doc pm : Value) (an : Option Addr) (cdv ct : Value) : DefBind K d__law_sorts (PySem.W.fnOf "_law_sorts" "_law_sorts" (defArgs s__law_sorts) (defBody s__law_sorts) (defScope s__law_sorts) .none kV doc pm an cdv ct) := by
  refine ⟨fun s npos ks us ws vals h hu hw hp => ?_⟩
  simp only [d__law_sorts, List.mem_cons, List.not_mem_nil, or_false, Prod.mk.injEq] at h
  rcases h with ⟨rfl, rfl⟩
  · match us, ws, hu, hw with
    | [], [], _, _ => cases hp; exact .of_eq rfl
abbrev s__law_deciding : Stmt := topS 17
theorem sc__law_deciding : scB d__law_deciding.N d__law_deciding.n (defScope s__law_deciding) = true := by decide +kernel
theorem ck__law_deciding : chkSs P0 d__law_deciding.N (defScope s__law_deciding) d__law_deciding.body (defBody s__law_deciding) = true := by decide +kernel
theorem bd__law_deciding {K : PySem.W.Frag} (kV doc pm : Value) (an : Option Addr) (cdv ct : Value) : DefBind K d__law_deciding (PySem.W.fnOf "_law_deciding" "_law_deciding" (defArgs s__law_deciding) (defBody s__law_deciding) (defScope s__law_deciding) .none kV doc pm an cdv ct) := by
  refine ⟨fun s npos ks us ws vals h hu hw hp => ?_⟩
  simp only [d__law_deciding, List.mem_cons, List.not_mem_nil, or_false, Prod.mk.injEq] at h
  rcases h with ⟨rfl, rfl⟩
  · match us, ws, hu, hw with
    | [u0, u1], [], _, _ => cases hp; exact .of_eq rfl
abbrev s__law_priority : Stmt := topS 18
theorem sc__law_priority : scB d__law_priority.N d__law_priority.n (defScope s__law_priority) = true := by decide +kernel
theorem ck__law_priority : chkSs P0 d__law_priority.N (defScope s__law_priority) d__law_priority.body (defBody s__law_priority) = true := by decide +kernel
theorem bd__law_priority {K : PySem.W.Frag} (kV doc pm : Value) (an : Option Addr) (cdv ct : Value) : DefBind K d__law_priority (PySem.W.fnOf "_law_priority" "_law_priority" (defArgs s__law_priority) (defBody s__law_priority) (defScope s__law_priority) .none kV doc pm an cdv ct) := by
  refine ⟨fun s npos ks us ws vals h hu hw hp => ?_⟩
  simp only [d__law_priority, List.mem_cons, List.not_mem_nil, or_false, Prod.mk.injEq] at h
  rcases h with ⟨rfl, rfl⟩
  · match us, ws, hu, hw with
    | [u0, u1], [], _, _ => cases hp; exact .of_eq rfl
abbrev s__law_unlike : Stmt := topS 19
theorem sc__law_unlike : scB d__law_unlike.N d__law_unlike.n (defScope s__law_unlike) = true := by decide +kernel
theorem ck__law_unlike : chkSs P0 d__law_unlike.N (defScope s__law_unlike) d__law_unlike.body (defBody s__law_unlike) = true := by decide +kernel
theorem bd__law_unlike {K : PySem.W.Frag} (kV doc pm : Value) (an : Option Addr) (cdv ct : Value) : DefBind K d__law_unlike (PySem.W.fnOf "_law_unlike" "_law_unlike" (defArgs s__law_unlike) (defBody s__law_unlike) (defScope s__law_unlike) .none kV doc pm an cdv ct) := by
  refine ⟨fun s npos ks us ws vals h hu hw hp => ?_⟩
  simp only [d__law_unlike, List.mem_cons, List.not_mem_nil, or_false, Prod.mk.injEq] at h
  rcases h with ⟨rfl, rfl⟩
  · match us, ws, hu, hw with
    | [u0, u1], [], _, _ => cases hp; exact .of_eq rfl
abbrev s__law_near : Stmt := topS 20
theorem sc__law_near : scB d__law_near.N d__law_near.n (defScope s__law_near) = true := by decide +kernel
theorem ck__law_near : chkSs P0 d__law_near.N (defScope s__law_near) d__law_near.body (defBody s__law_near) = true := by decide +kernel
theorem bd__law_near {K : PySem.W.Frag} (kV doc pm : Value) (an : Option Addr) (cdv ct : Value) : DefBind K d__law_near (PySem.W.fnOf "_law_near" "_law_near" (defArgs s__law_near) (defBody s__law_near) (defScope s__law_near) .none kV doc pm an cdv ct) := by
  refine ⟨fun s npos ks us ws vals h hu hw hp => ?_⟩
  simp only [d__law_near, List.mem_cons, List.not_mem_nil, or_false, Prod.mk.injEq] at h
  rcases h with ⟨rfl, rfl⟩
  · match us, ws, hu, hw with
    | [u0, u1], [], _, _ => cases hp; exact .of_eq rfl
abbrev s__law_may_change : Stmt := topS 21
theorem sc__law_may_change : scB d__law_may_change.N d__law_may_change.n (defScope s__law_may_change) = true := by decide +kernel
theorem ck__law_may_change : chkSs P0 d__law_may_change.N (defScope s__law_may_change) d__law_may_change.body (defBody s__law_may_change) = true := by decide +kernel
theorem bd__law_may_change {K : PySem.W.Frag} (kV doc pm : Value) (an : Option Addr) (cdv ct : Value) : DefBind K d__law_may_change (PySem.W.fnOf "_law_may_change" "_law_may_change" (defArgs s__law_may_change) (defBody s__law_may_change) (defScope s__law_may_change) .none kV doc pm an cdv ct) := by
  refine ⟨fun s npos ks us ws vals h hu hw hp => ?_⟩
  simp only [d__law_may_change, List.mem_cons, List.not_mem_nil, or_false, Prod.mk.injEq] at h
  rcases h with ⟨rfl, rfl⟩
  · match us, ws, hu, hw with
    | [u0, u1], [], _, _ => cases hp; exact .of_eq rfl
abbrev s_law : Stmt := topS 22
theorem sc_law : scB d_law.N d_law.n (defScope s_law) = true := by decide +kernel
theorem ck_law : chkSs P0 d_law.N (defScope s_law) d_law.body (defBody s_law) = true := by decide +kernel
theorem bd_law {K : PySem.W.Frag} (kV doc pm : Value) (an : Option Addr) (cdv ct : Value) : DefBind K d_law (PySem.W.fnOf "law" "law" (defArgs s_law) (defBody s_law) (defScope s_law) .none kV doc pm an cdv ct) := by
  refine ⟨fun s npos ks us ws vals h hu hw hp => ?_⟩
  simp only [d_law, List.mem_cons, List.not_mem_nil, or_false, Prod.mk.injEq] at h
  rcases h with ⟨rfl, rfl⟩
  · match us, ws, hu, hw with
    | [u0], [], _, _ => cases hp; exact .of_eq rfl
theorem all_mk {l : PySem.W.OpenLaw} {w : World} {K : PySem.W.Frag} {h : Heap} {mg : Str → Option Value} {fa f0 f1 f2 f3 f4 f5 f6 f7 f8 f9 f10 f11 f12 f13 f14 f15 f16 f17 f18 f19 : Addr} (X : K.In h) (G : h.Ns mainGlobals mg) (hmg : mg "law" = some (.ref fa))
    {od0 an0 : Option Addr} {sl0 : Array (Option Value)} {oc0 kV0 dc0 pm0 cd0 ct0 : Value}
    (a0 : PySem.W.nsIn K mainGlobals "all_sorts" = some (some (.ref f0))) (l0 : K.lookup f0 = some ⟨oc0, od0, .func (PySem.W.fnOf "all_sorts" "all_sorts" (defArgs s_all_sorts) (defBody s_all_sorts) (defScope s_all_sorts) .none kV0 dc0 pm0 an0 cd0 ct0), sl0⟩) (c0 : PySem.W.codeIn K cd0 "all_sorts" = true) (k0 : PySem.W.keepIn K (.ref f0) = true)
    {od1 an1 : Option Addr} {sl1 : Array (Option Value)} {oc1 kV1 dc1 pm1 cd1 ct1 : Value}
    (a1 : PySem.W.nsIn K mainGlobals "does_fit" = some (some (.ref f1))) (l1 : K.lookup f1 = some ⟨oc1, od1, .func (PySem.W.fnOf "does_fit" "does_fit" (defArgs s_does_fit) (defBody s_does_fit) (defScope s_does_fit) .none kV1 dc1 pm1 an1 cd1 ct1), sl1⟩) (c1 : PySem.W.codeIn K cd1 "does_fit" = true) (k1 : PySem.W.keepIn K (.ref f1) = true)
    {od2 an2 : Option Addr} {sl2 : Array (Option Value)} {oc2 kV2 dc2 pm2 cd2 ct2 : Value}
    (a2 : PySem.W.nsIn K mainGlobals "deciding" = some (some (.ref f2))) (l2 : K.lookup f2 = some ⟨oc2, od2, .func (PySem.W.fnOf "deciding" "deciding" (defArgs s_deciding) (defBody s_deciding) (defScope s_deciding) .none kV2 dc2 pm2 an2 cd2 ct2), sl2⟩) (c2 : PySem.W.codeIn K cd2 "deciding" = true) (k2 : PySem.W.keepIn K (.ref f2) = true)
    {od3 an3 : Option Addr} {sl3 : Array (Option Value)} {oc3 kV3 dc3 pm3 cd3 ct3 : Value}
    (a3 : PySem.W.nsIn K mainGlobals "priority_of" = some (some (.ref f3))) (l3 : K.lookup f3 = some ⟨oc3, od3, .func (PySem.W.fnOf "priority_of" "priority_of" (defArgs s_priority_of) (defBody s_priority_of) (defScope s_priority_of) .none kV3 dc3 pm3 an3 cd3 ct3), sl3⟩) (c3 : PySem.W.codeIn K cd3 "priority_of" = true) (k3 : PySem.W.keepIn K (.ref f3) = true)
    {od4 an4 : Option Addr} {sl4 : Array (Option Value)} {oc4 kV4 dc4 pm4 cd4 ct4 : Value}
    (a4 : PySem.W.nsIn K mainGlobals "first_unlike" = some (some (.ref f4))) (l4 : K.lookup f4 = some ⟨oc4, od4, .func (PySem.W.fnOf "first_unlike" "first_unlike" (defArgs s_first_unlike) (defBody s_first_unlike) (defScope s_first_unlike) .none kV4 dc4 pm4 an4 cd4 ct4), sl4⟩) (c4 : PySem.W.codeIn K cd4 "first_unlike" = true) (k4 : PySem.W.keepIn K (.ref f4) = true)
    {od5 an5 : Option Addr} {sl5 : Array (Option Value)} {oc5 kV5 dc5 pm5 cd5 ct5 : Value}
    (a5 : PySem.W.nsIn K mainGlobals "table_core" = some (some (.ref f5))) (l5 : K.lookup f5 = some ⟨oc5, od5, .func (PySem.W.fnOf "table_core" "table_core" (defArgs s_table_core) (defBody s_table_core) (defScope s_table_core) .none kV5 dc5 pm5 an5 cd5 ct5), sl5⟩) (c5 : PySem.W.codeIn K cd5 "table_core" = true) (k5 : PySem.W.keepIn K (.ref f5) = true)
    {od6 an6 : Option Addr} {sl6 : Array (Option Value)} {oc6 kV6 dc6 pm6 cd6 ct6 : Value}
    (a6 : PySem.W.nsIn K mainGlobals "_law_pot" = some (some (.ref f6))) (l6 : K.lookup f6 = some ⟨oc6, od6, .func (PySem.W.fnOf "_law_pot" "_law_pot" (defArgs s__law_pot) (defBody s__law_pot) (defScope s__law_pot) .none kV6 dc6 pm6 an6 cd6 ct6), sl6⟩) (c6 : PySem.W.codeIn K cd6 "_law_pot" = true) (k6 : PySem.W.keepIn K (.ref f6) = true)
    {od7 an7 : Option Addr} {sl7 : Array (Option Value)} {oc7 kV7 dc7 pm7 cd7 ct7 : Value}
    (a7 : PySem.W.nsIn K mainGlobals "_law_draw" = some (some (.ref f7))) (l7 : K.lookup f7 = some ⟨oc7, od7, .func (PySem.W.fnOf "_law_draw" "_law_draw" (defArgs s__law_draw) (defBody s__law_draw) (defScope s__law_draw) .none kV7 dc7 pm7 an7 cd7 ct7), sl7⟩) (c7 : PySem.W.codeIn K cd7 "_law_draw" = true) (k7 : PySem.W.keepIn K (.ref f7) = true)
    {od8 an8 : Option Addr} {sl8 : Array (Option Value)} {oc8 kV8 dc8 pm8 cd8 ct8 : Value}
    (a8 : PySem.W.nsIn K mainGlobals "_law_pick" = some (some (.ref f8))) (l8 : K.lookup f8 = some ⟨oc8, od8, .func (PySem.W.fnOf "_law_pick" "_law_pick" (defArgs s__law_pick) (defBody s__law_pick) (defScope s__law_pick) .none kV8 dc8 pm8 an8 cd8 ct8), sl8⟩) (c8 : PySem.W.codeIn K cd8 "_law_pick" = true) (k8 : PySem.W.keepIn K (.ref f8) = true)
    {od9 an9 : Option Addr} {sl9 : Array (Option Value)} {oc9 kV9 dc9 pm9 cd9 ct9 : Value}
    (a9 : PySem.W.nsIn K mainGlobals "_law_with" = some (some (.ref f9))) (l9 : K.lookup f9 = some ⟨oc9, od9, .func (PySem.W.fnOf "_law_with" "_law_with" (defArgs s__law_with) (defBody s__law_with) (defScope s__law_with) .none kV9 dc9 pm9 an9 cd9 ct9), sl9⟩) (c9 : PySem.W.codeIn K cd9 "_law_with" = true) (k9 : PySem.W.keepIn K (.ref f9) = true)
    {od10 an10 : Option Addr} {sl10 : Array (Option Value)} {oc10 kV10 dc10 pm10 cd10 ct10 : Value}
    (a10 : PySem.W.nsIn K mainGlobals "_law_lot" = some (some (.ref f10))) (l10 : K.lookup f10 = some ⟨oc10, od10, .func (PySem.W.fnOf "_law_lot" "_law_lot" (defArgs s__law_lot) (defBody s__law_lot) (defScope s__law_lot) .none kV10 dc10 pm10 an10 cd10 ct10), sl10⟩) (c10 : PySem.W.codeIn K cd10 "_law_lot" = true) (k10 : PySem.W.keepIn K (.ref f10) = true)
    {od11 an11 : Option Addr} {sl11 : Array (Option Value)} {oc11 kV11 dc11 pm11 cd11 ct11 : Value}
    (a11 : PySem.W.nsIn K mainGlobals "_law_table" = some (some (.ref f11))) (l11 : K.lookup f11 = some ⟨oc11, od11, .func (PySem.W.fnOf "_law_table" "_law_table" (defArgs s__law_table) (defBody s__law_table) (defScope s__law_table) .none kV11 dc11 pm11 an11 cd11 ct11), sl11⟩) (c11 : PySem.W.codeIn K cd11 "_law_table" = true) (k11 : PySem.W.keepIn K (.ref f11) = true)
    {od12 an12 : Option Addr} {sl12 : Array (Option Value)} {oc12 kV12 dc12 pm12 cd12 ct12 : Value}
    (a12 : PySem.W.nsIn K mainGlobals "_law_fits" = some (some (.ref f12))) (l12 : K.lookup f12 = some ⟨oc12, od12, .func (PySem.W.fnOf "_law_fits" "_law_fits" (defArgs s__law_fits) (defBody s__law_fits) (defScope s__law_fits) .none kV12 dc12 pm12 an12 cd12 ct12), sl12⟩) (c12 : PySem.W.codeIn K cd12 "_law_fits" = true) (k12 : PySem.W.keepIn K (.ref f12) = true)
    {od13 an13 : Option Addr} {sl13 : Array (Option Value)} {oc13 kV13 dc13 pm13 cd13 ct13 : Value}
    (a13 : PySem.W.nsIn K mainGlobals "_law_sorts" = some (some (.ref f13))) (l13 : K.lookup f13 = some ⟨oc13, od13, .func (PySem.W.fnOf "_law_sorts" "_law_sorts" (defArgs s__law_sorts) (defBody s__law_sorts) (defScope s__law_sorts) .none kV13 dc13 pm13 an13 cd13 ct13), sl13⟩) (c13 : PySem.W.codeIn K cd13 "_law_sorts" = true) (k13 : PySem.W.keepIn K (.ref f13) = true)
    {od14 an14 : Option Addr} {sl14 : Array (Option Value)} {oc14 kV14 dc14 pm14 cd14 ct14 : Value}
    (a14 : PySem.W.nsIn K mainGlobals "_law_deciding" = some (some (.ref f14))) (l14 : K.lookup f14 = some ⟨oc14, od14, .func (PySem.W.fnOf "_law_deciding" "_law_deciding" (defArgs s__law_deciding) (defBody s__law_deciding) (defScope s__law_deciding) .none kV14 dc14 pm14 an14 cd14 ct14), sl14⟩) (c14 : PySem.W.codeIn K cd14 "_law_deciding" = true) (k14 : PySem.W.keepIn K (.ref f14) = true)
    {od15 an15 : Option Addr} {sl15 : Array (Option Value)} {oc15 kV15 dc15 pm15 cd15 ct15 : Value}
    (a15 : PySem.W.nsIn K mainGlobals "_law_priority" = some (some (.ref f15))) (l15 : K.lookup f15 = some ⟨oc15, od15, .func (PySem.W.fnOf "_law_priority" "_law_priority" (defArgs s__law_priority) (defBody s__law_priority) (defScope s__law_priority) .none kV15 dc15 pm15 an15 cd15 ct15), sl15⟩) (c15 : PySem.W.codeIn K cd15 "_law_priority" = true) (k15 : PySem.W.keepIn K (.ref f15) = true)
    {od16 an16 : Option Addr} {sl16 : Array (Option Value)} {oc16 kV16 dc16 pm16 cd16 ct16 : Value}
    (a16 : PySem.W.nsIn K mainGlobals "_law_unlike" = some (some (.ref f16))) (l16 : K.lookup f16 = some ⟨oc16, od16, .func (PySem.W.fnOf "_law_unlike" "_law_unlike" (defArgs s__law_unlike) (defBody s__law_unlike) (defScope s__law_unlike) .none kV16 dc16 pm16 an16 cd16 ct16), sl16⟩) (c16 : PySem.W.codeIn K cd16 "_law_unlike" = true) (k16 : PySem.W.keepIn K (.ref f16) = true)
    {od17 an17 : Option Addr} {sl17 : Array (Option Value)} {oc17 kV17 dc17 pm17 cd17 ct17 : Value}
    (a17 : PySem.W.nsIn K mainGlobals "_law_near" = some (some (.ref f17))) (l17 : K.lookup f17 = some ⟨oc17, od17, .func (PySem.W.fnOf "_law_near" "_law_near" (defArgs s__law_near) (defBody s__law_near) (defScope s__law_near) .none kV17 dc17 pm17 an17 cd17 ct17), sl17⟩) (c17 : PySem.W.codeIn K cd17 "_law_near" = true) (k17 : PySem.W.keepIn K (.ref f17) = true)
    {od18 an18 : Option Addr} {sl18 : Array (Option Value)} {oc18 kV18 dc18 pm18 cd18 ct18 : Value}
    (a18 : PySem.W.nsIn K mainGlobals "_law_may_change" = some (some (.ref f18))) (l18 : K.lookup f18 = some ⟨oc18, od18, .func (PySem.W.fnOf "_law_may_change" "_law_may_change" (defArgs s__law_may_change) (defBody s__law_may_change) (defScope s__law_may_change) .none kV18 dc18 pm18 an18 cd18 ct18), sl18⟩) (c18 : PySem.W.codeIn K cd18 "_law_may_change" = true) (k18 : PySem.W.keepIn K (.ref f18) = true)
    {od19 an19 : Option Addr} {sl19 : Array (Option Value)} {oc19 kV19 dc19 pm19 cd19 ct19 : Value}
    (a19 : PySem.W.nsIn K mainGlobals "law" = some (some (.ref f19))) (l19 : K.lookup f19 = some ⟨oc19, od19, .func (PySem.W.fnOf "law" "law" (defArgs s_law) (defBody s_law) (defScope s_law) .none kV19 dc19 pm19 an19 cd19 ct19), sl19⟩) (c19 : PySem.W.codeIn K cd19 "law" = true) (k19 : PySem.W.keepIn K (.ref f19) = true)
    {t0 : Tok} (g0 : PySem.W.nsIn K mainGlobals "MAX_FIELD" = some (some (.int 3 t0)))
    (z0 : PySem.W.nsIn K mainGlobals "len" = some none)
    (z1 : PySem.W.nsIn K mainGlobals "abs" = some none)
    (z2 : PySem.W.nsIn K mainGlobals "int" = some none)
    (z3 : PySem.W.nsIn K mainGlobals "str" = some none)
    (z4 : PySem.W.nsIn K mainGlobals "repr" = some none)
    (z5 : PySem.W.nsIn K mainGlobals "sum" = some none)
    (z6 : PySem.W.nsIn K mainGlobals "min" = some none)
    (z7 : PySem.W.nsIn K mainGlobals "max" = some none)
    (z8 : PySem.W.nsIn K mainGlobals "any" = some none)
    (z9 : PySem.W.nsIn K mainGlobals "all" = some none)
    (z10 : PySem.W.nsIn K mainGlobals "tuple" = some none)
    (z11 : PySem.W.nsIn K mainGlobals "list" = some none)
    (z12 : PySem.W.nsIn K mainGlobals "range" = some none)
    (z13 : PySem.W.nsIn K mainGlobals "enumerate" = some none)
    (z14 : PySem.W.nsIn K mainGlobals "zip" = some none)
    (z15 : PySem.W.nsIn K mainGlobals "sorted" = some none)
    (z16 : PySem.W.nsIn K mainGlobals "isinstance" = some none)
    (z17 : PySem.W.nsIn K mainGlobals "set" = some none)
    (z18 : PySem.W.nsIn K mainGlobals "dict" = some none)
    (z19 : PySem.W.nsIn K mainGlobals "bool" = some none)
    : ∃ fd : FuncData, (∀ (s : Shared) (u : Value), BindsTo s fd ⟨[u], []⟩ [("script", u)]) ∧ ∀ base : Heap, FnG l.prog w K mg base 5 fa fd 1 (spF P0 K 5 19 1) ["script"] := by
  refine fg_of (d := d_law) rfl rfl rfl rfl (by decide) rfl hmg (fun f d hd => ?_) fun x hx => ?_
  · have hm := List.mem_of_getElem? hd
    simp only [P0, List.mem_cons, List.not_mem_nil, or_false] at hm
    rcases hm with rfl | rfl | rfl | rfl | rfl | rfl | rfl | rfl | rfl | rfl | rfl | rfl | rfl | rfl | rfl | rfl | rfl | rfl | rfl | rfl | rfl
    · exact defOk_by (st := s_all_sorts) (PySem.W.mg_of X G a0) l0 c0 k0 (bd_all_sorts _ _ _ _ _ _) sc_all_sorts ck_all_sorts
    · exact defOk_by (st := s_does_fit) (PySem.W.mg_of X G a1) l1 c1 k1 (bd_does_fit _ _ _ _ _ _) sc_does_fit ck_does_fit
    · exact defOk_by (st := s_deciding) (PySem.W.mg_of X G a2) l2 c2 k2 (bd_deciding _ _ _ _ _ _) sc_deciding ck_deciding
    · exact defOk_by (st := s_priority_of) (PySem.W.mg_of X G a3) l3 c3 k3 (bd_priority_of _ _ _ _ _ _) sc_priority_of ck_priority_of
    · exact defOk_by (st := s_first_unlike) (PySem.W.mg_of X G a4) l4 c4 k4 (bd_first_unlike _ _ _ _ _ _) sc_first_unlike ck_first_unlike
    · exact defOk_by (st := s_table_core) (PySem.W.mg_of X G a5) l5 c5 k5 (bd_table_core _ _ _ _ _ _) sc_table_core ck_table_core
    · exact defOk_by (st := s__law_pot) (PySem.W.mg_of X G a6) l6 c6 k6 (bd__law_pot _ _ _ _ _ _) sc__law_pot ck__law_pot
    · exact defOk_by (st := s__law_draw) (PySem.W.mg_of X G a7) l7 c7 k7 (bd__law_draw _ _ _ _ _ _) sc__law_draw ck__law_draw
    · exact defOk_by (st := s__law_pick) (PySem.W.mg_of X G a8) l8 c8 k8 (bd__law_pick _ _ _ _ _ _) sc__law_pick ck__law_pick
    · exact defOk_by (st := s__law_with) (PySem.W.mg_of X G a9) l9 c9 k9 (bd__law_with _ _ _ _ _ _) sc__law_with ck__law_with
    · exact defOk_by (st := s__law_lot) (PySem.W.mg_of X G a10) l10 c10 k10 (bd__law_lot _ _ _ _ _ _) sc__law_lot ck__law_lot
    · exact defOk_by (st := s__law_table) (PySem.W.mg_of X G a11) l11 c11 k11 (bd__law_table _ _ _ _ _ _) sc__law_table ck__law_table
    · exact defOk_by (st := s__law_fits) (PySem.W.mg_of X G a12) l12 c12 k12 (bd__law_fits _ _ _ _ _ _) sc__law_fits ck__law_fits
    · exact defOk_by (st := s__law_sorts) (PySem.W.mg_of X G a13) l13 c13 k13 (bd__law_sorts _ _ _ _ _ _) sc__law_sorts ck__law_sorts
    · exact defOk_by (st := s__law_deciding) (PySem.W.mg_of X G a14) l14 c14 k14 (bd__law_deciding _ _ _ _ _ _) sc__law_deciding ck__law_deciding
    · exact defOk_by (st := s__law_priority) (PySem.W.mg_of X G a15) l15 c15 k15 (bd__law_priority _ _ _ _ _ _) sc__law_priority ck__law_priority
    · exact defOk_by (st := s__law_unlike) (PySem.W.mg_of X G a16) l16 c16 k16 (bd__law_unlike _ _ _ _ _ _) sc__law_unlike ck__law_unlike
    · exact defOk_by (st := s__law_near) (PySem.W.mg_of X G a17) l17 c17 k17 (bd__law_near _ _ _ _ _ _) sc__law_near ck__law_near
    · exact defOk_by (st := s__law_may_change) (PySem.W.mg_of X G a18) l18 c18 k18 (bd__law_may_change _ _ _ _ _ _) sc__law_may_change ck__law_may_change
    · exact defOk_by (st := s_law) (PySem.W.mg_of X G a19) l19 c19 k19 (bd_law _ _ _ _ _ _) sc_law ck_law
    · exact defOk_int rfl (PySem.W.mg_of X G g0)
  · simp only [bltNames, List.mem_cons, List.not_mem_nil, or_false] at hx
    rcases hx with rfl | rfl | rfl | rfl | rfl | rfl | rfl | rfl | rfl | rfl | rfl | rfl | rfl | rfl | rfl | rfl | rfl | rfl | rfl | rfl
    · exact PySem.W.mg_none_of X G z0
    · exact PySem.W.mg_none_of X G z1
    · exact PySem.W.mg_none_of X G z2
    · exact PySem.W.mg_none_of X G z3
    · exact PySem.W.mg_none_of X G z4
    · exact PySem.W.mg_none_of X G z5
    · exact PySem.W.mg_none_of X G z6
    · exact PySem.W.mg_none_of X G z7
    · exact PySem.W.mg_none_of X G z8
    · exact PySem.W.mg_none_of X G z9
    · exact PySem.W.mg_none_of X G z10
    · exact PySem.W.mg_none_of X G z11
    · exact PySem.W.mg_none_of X G z12
    · exact PySem.W.mg_none_of X G z13
    · exact PySem.W.mg_none_of X G z14
    · exact PySem.W.mg_none_of X G z15
    · exact PySem.W.mg_none_of X G z16
    · exact PySem.W.mg_none_of X G z17
    · exact PySem.W.mg_none_of X G z18
    · exact PySem.W.mg_none_of X G z19
end PyI.K15
namespace PyI.K15
open PySem
local macro_rules | `(tactic| wrow_none_raised) => `(tactic| first
  | assumption
  | exact Pl.none
  | exact Pl.bool
  | (show Pl _ _ (PyData.int _); exact Pl.i (by omega))
  | (show Pl _ _ (PyData.str _); exact Pl.str (by decide +kernel))
  | (show Pl _ _ (PyData.list _); exact Pl.list (by wrow_none_raised))
  | (show Pl _ _ (PyData.tuple _); exact Pl.tuple (by wrow_none_raised))
  | exact Pls.nil
  | (show Pls _ _ (_ :: _); exact Pls.cons (by wrow_none_raised) (by wrow_none_raised)))
local macro_rules | `(tactic| w_fin) => `(tactic| first | decide | assumption | omega | exact log2_small (by omega) | (simp only [List.length_map, List.length_append, List.length_cons, List.length_nil, sizeLine_eq, MulOk, In62] at *; omega))
local macro_rules | `(tactic| w_left) => `(tactic| ((conv => whnf); show If2 _ _ _; first
  | refine If2.d (fun _ => ?_) (fun _ => ?_)
  | refine If2.n (fun _ => ?_) (fun _ => ?_)
  | refine If2.nn ?_
  | refine If2.mk (fun _ => ?_) (fun _ => ?_)))
local macro_rules | `(tactic| w_means) => `(tactic| ((conv => whnf); first
  | (show If2 _ _ _; first
    | refine If2.tt ?_
    | refine If2.ff ?_
    | (refine If2.dt ?_ ?_; · first | decide | assumption | omega)
    | (refine If2.df ?_ ?_; · first | decide | assumption | omega)
    | (refine If2.nt ?_ ?_; · first | decide | assumption | omega)
    | (refine If2.nf ?_ ?_; · first | decide | assumption | omega))
  | (show Sd _ _; refine Sd.mk ?_ ?_; · w_fin)
  | (show EqP _ _ _; first
    | refine EqP.int ?_
    | (refine EqP.od ?_ ?_; · first | assumption | exact Od.of (by wrow_none_raised) (by omega)))
  | (show RepP _ _; refine RepP.od ?_ ?_; · first | assumption | exact Od.of (by wrow_none_raised) (by omega))
  | (show LvP _ _; first | refine LvP.of ?_ | refine lvK_eq ?_)
  | (show DtP _ _; first | refine DtP.of ?_ | refine DtP.norm ?_)
  | (show IntsP _ _; first | refine IntsP.ints ?_ | refine IntsP.of ?_)
  | (show BoolsP _ _; refine BoolsP.of ?_)
  | (show LenP _ _; first | refine LenP.map ?_ | refine LenP.any ?_)
  | (show SrtP _ _; first | refine SrtP.ints ?_ | refine SrtP.prs ?_)
  | (show IsP _ _ _; first
    | refine IsP.of (b := true) (by exact Eq.refl _) ?_
    | refine IsP.of (b := false) (by exact Eq.refl _) ?_)
  | (show IxD _ _ _; refine IxD.lit _ _ (by exact Eq.refl _) (by exact Eq.refl _) ?_)
  | (show IxT _ _ _; refine IxT.lit _ _ (by exact Eq.refl _) (by exact Eq.refl _) ?_)
  | (show AtP _ _ _; refine AtP.of (by exact Eq.refl _) ?_)
  | (show PutP _ _ _ _; refine PutP.of (by exact Eq.refl _) ?_)
  | (show KeyP _ _ _; refine KeyP.at _ (by exact Eq.refl _) (by first | exact (show posK _ _ = some 0 by decide +kernel) | exact (show posK _ _ = some 1 by decide +kernel) | exact (show posK _ _ = some 2 by decide +kernel) | exact (show posK _ _ = some 3 by decide +kernel) | exact (show posK _ _ = some 4 by decide +kernel)) ?_)
  | (show NthP _ _ _; refine NthP.at (by exact Eq.refl _) ?_)
  | (show DPutP _ _ _ _ _; first
    | refine DPutP.at _ (by decide) (by exact Eq.refl _) (by first | exact (show posK _ _ = some 0 by decide +kernel) | exact (show posK _ _ = some 1 by decide +kernel) | exact (show posK _ _ = some 2 by decide +kernel) | exact (show posK _ _ = some 3 by decide +kernel)) ?_
    | refine DPutP.new (by decide) (by exact Eq.refl _) (by decide +kernel) ?_)
  | (show SetP _ _ _ _; first | (show SetP (_ :: _) _ _ _; refine setK_eq ?_) | refine SetP.leaf ?_ | refine SetP.any ?_)
  | (show DdP _ _ _; refine DdP.norm ?_)
  | (show SnocP _ _ _; first | refine SnocP.nil ?_ | (show SnocP (_ :: _) _ _; refine snocK_eq ?_) | refine SnocP.leaf ?_)
  | (show ExtP _ _ _; refine ExtP.leaf ?_)
  | (show AgP _ _ _ _; refine AgP.mk ?_ ?_; · ((conv => whnf); repeat' (first | exact True.intro | exact rfl | apply And.intro)))))
local macro_rules | `(tactic| law_side) => `(tactic| ((conv => whnf); first
  | (show Bd _; refine Bd.mk ?_)
  | (show If2 _ _ _; first
    | refine If2.tt ?_
    | refine If2.ff ?_
    | (refine If2.dt ?_ ?_; · first | decide | assumption | omega)
    | (refine If2.df ?_ ?_; · first | decide | assumption | omega)
    | (refine If2.nt ?_ ?_; · first | decide | assumption | omega)
    | (refine If2.nf ?_ ?_; · first | decide | assumption | omega))
  | (show Sd _ _; refine Sd.mk ?_ ?_; · w_fin)
  | (show EqP _ _ _; first
    | refine EqP.int ?_
    | (refine EqP.od ?_ ?_; · first | assumption | exact Od.of (by wrow_none_raised) (by omega)))
  | (show RepP _ _; refine RepP.od ?_ ?_; · first | assumption | exact Od.of (by wrow_none_raised) (by omega))
  | (show LvP _ _; first | refine LvP.of ?_ | refine lvK_eq ?_)
  | (show DtP _ _; first | refine DtP.of ?_ | refine DtP.norm ?_)
  | (show IntsP _ _; first | refine IntsP.ints ?_ | refine IntsP.of ?_)
  | (show BoolsP _ _; refine BoolsP.of ?_)
  | (show LenP _ _; first | refine LenP.map ?_ | refine LenP.any ?_)
  | (show SrtP _ _; first | refine SrtP.ints ?_ | refine SrtP.prs ?_)
  | (show IsP _ _ _; first
    | refine IsP.of (b := true) (by exact Eq.refl _) ?_
    | refine IsP.of (b := false) (by exact Eq.refl _) ?_)
  | (show IxD _ _ _; refine IxD.lit _ _ (by exact Eq.refl _) (by exact Eq.refl _) ?_)
  | (show IxT _ _ _; refine IxT.lit _ _ (by exact Eq.refl _) (by exact Eq.refl _) ?_)
  | (show AtP _ _ _; refine AtP.of (by exact Eq.refl _) ?_)
  | (show PutP _ _ _ _; refine PutP.of (by exact Eq.refl _) ?_)
  | (show KeyP _ _ _; refine KeyP.at _ (by exact Eq.refl _) (by first | exact (show posK _ _ = some 0 by decide +kernel) | exact (show posK _ _ = some 1 by decide +kernel) | exact (show posK _ _ = some 2 by decide +kernel) | exact (show posK _ _ = some 3 by decide +kernel) | exact (show posK _ _ = some 4 by decide +kernel)) ?_)
  | (show NthP _ _ _; refine NthP.at (by exact Eq.refl _) ?_)
  | (show DPutP _ _ _ _ _; first
    | refine DPutP.at _ (by decide) (by exact Eq.refl _) (by first | exact (show posK _ _ = some 0 by decide +kernel) | exact (show posK _ _ = some 1 by decide +kernel) | exact (show posK _ _ = some 2 by decide +kernel) | exact (show posK _ _ = some 3 by decide +kernel)) ?_
    | refine DPutP.new (by decide) (by exact Eq.refl _) (by decide +kernel) ?_)
  | (show SetP _ _ _ _; first | (show SetP (_ :: _) _ _ _; refine setK_eq ?_) | refine SetP.leaf ?_ | refine SetP.any ?_)
  | (show DdP _ _ _; refine DdP.norm ?_)
  | (show SnocP _ _ _; first | refine SnocP.nil ?_ | (show SnocP (_ :: _) _ _; refine snocK_eq ?_) | refine SnocP.leaf ?_)
  | (show ExtP _ _ _; refine ExtP.leaf ?_)
  | (show AgP _ _ _ _; refine AgP.mk ?_ ?_; · ((conv => whnf); repeat' (first | exact True.intro | exact rfl | apply And.intro)))))
local macro_rules | `(tactic| wrow_close) => `(tactic| ((repeat' (first | law_side | w_left)) <;> first
  | exact ⟨_, rfl, rfl⟩
  | exact ⟨_, rfl, if_pos (by assumption)⟩
  | exact if_neg (by assumption)
  | exact rfl))
local macro_rules | `(tactic| wrow_raised) => `(tactic| ((repeat law_side); conv => whnf))

/-! the laws' own draws: a dict with great, stirred, turn; the turns are counted -/
def iL (ns : List Int) : List OT := (ns.map PyData.int).map .leaf
def iT (i : Int) : OT := .leaf (.int i)
/-- a pot from which may be drawn -/
def Pot (m : Nat) (t : OT) : Prop := ∃ cs a b, t = .nod (some [.inr "great", .inr "stirred", .inr "turn"]) [.lst (iL cs), iT a, iT b] ∧ (∀ c ∈ cs, 0 ≤ c) ∧ 0 ≤ a ∧ a < 4294967291 ∧ cs.length ≤ 63 ∧ 0 ≤ b ∧ b ≤ m
theorem Pot.mono {m n : Nat} {t : OT} (h : Pot m t) (l : m ≤ n) : Pot n t := by
  obtain ⟨cs, a, b, h1, h2, h3, h4, h5, h6, h7⟩ := h
  exact ⟨cs, a, b, h1, h2, h3, h4, h5, h6, by omega⟩
theorem sp_ints {cs : List Int} : Sps 0 (cs.map PyData.int) := Sps.map fun _ _ => Sp.int
section
variable {Q : OT → List (Option OT) → Prop}
theorem c_draw {k n : Nat} {p : OT} {many : Int} (hp : Pot n p) (hn : n < 1000000000000000000) (h1 : 1 ≤ many) (h2 : many < 1073741824) (q : ∀ (r : Int) (p' : OT) (fin : List (Option OT)), 0 ≤ r → r < many → Pot (n + 1) p' → Q (iT r) (some p' :: fin)) :
    CallP (run P0 (k + 1) i__law_draw) [p, iT many] Q := by
  obtain ⟨cs, a, b, rfl, hc, ha, hb, hl, hb0, hb1⟩ := hp
  refine call_def rfl rfl ?_
  wrow_raised
  refine EqP.nil (Sp.shaped (Sp.list sp_ints) (by decide)) ?_
  cases cs with
  | nil =>
    repeat' (first | law_side | w_left)
    exact q _ _ _ (Int.emod_nonneg _ (by omega)) (Int.emod_lt_of_pos _ (by omega)) ⟨[], _, _, rfl, (fun c h => nomatch h), Int.emod_nonneg _ (by omega), Int.emod_lt_of_pos _ (by omega), by simp, by omega, by omega⟩
  | cons d ds =>
    have hd : 0 ≤ d := hc d List.mem_cons_self
    have hc' : ∀ c ∈ ds, 0 ≤ c := fun c h => hc c (List.mem_cons_of_mem _ h)
    rw [List.length_cons] at hl
    conv => whnf
    refine If2.to rfl ?_
    repeat' law_side
    have dl : ∀ {K : D → List OT → Prop}, K (.int d) ((ds.map PyData.int).map .leaf) → DelP (((d :: ds).map PyData.int).map .leaf) 0 K := fun h => DelP.leaf 0 (.int d) rfl rfl h
    refine dl ?_
    repeat' (first | law_side | w_left)
    · exact q _ _ _ (Int.emod_nonneg _ (by omega)) (Int.emod_lt_of_pos _ (by omega)) ⟨d / many :: ds, a, b, rfl, fun c h => by
        rcases List.mem_cons.mp h with rfl | h
        · exact Int.ediv_nonneg hd (by omega)
        · exact hc' c h, ha, hb, by rw [List.length_cons]; omega, hb0, by omega⟩
    · exact q _ _ _ (Int.emod_nonneg _ (by omega)) (Int.emod_lt_of_pos _ (by omega)) ⟨ds, a, b, rfl, hc', ha, hb, by omega, hb0, by omega⟩
theorem ix_one {xs : List D} {r : Int} (h0 : 0 ≤ r) (h3 : r < xs.length) : ∃ (x : D) (k : Nat), r = (k : Int) ∧ xs[k]? = some x ∧ x ∈ xs :=
  ⟨xs[r.toNat], r.toNat, by omega, List.getElem?_eq_getElem (by omega), List.getElem_mem (by omega)⟩
/-- one of a list's items -/
theorem c_pick {k n : Nat} {p : OT} {it : OT} (xs : List D) (hp : Pot n p) (hn : n < 1000000000000000000) (hx : it = .leaf (.list xs) ∨ it = .leaf (.tuple xs) ∨ it = .lst (xs.map .leaf)) (h1 : 1 ≤ xs.length) (h2 : xs.length < 1073741824) (q : ∀ (x : D) (p' : OT) (fin : List (Option OT)), x ∈ xs → Pot (n + 1) p' → Q (.leaf x) (some p' :: some it :: fin)) :
    CallP (run P0 (k + 2) i__law_pick) [p, it] Q := by
  have hp0 := hp
  obtain ⟨cs, a, b, rfl, hc, ha, hb, hl, _⟩ := hp0
  rcases hx with rfl | rfl | rfl
  · refine call_def rfl rfl ?_
    repeat' law_side
    refine c_draw hp hn (by omega) (by omega) fun r p' fin h3 h4 hp' => ?_
    obtain ⟨x, k, g1, g2, g3⟩ := ix_one h3 h4
    conv => whnf
    refine IxD.nat k x g1 g2 ?_
    conv => whnf
    exact q x p' [] g3 hp'
  · refine call_def rfl rfl ?_
    repeat' law_side
    refine c_draw hp hn (by omega) (by omega) fun r p' fin h3 h4 hp' => ?_
    obtain ⟨x, k, g1, g2, g3⟩ := ix_one h3 h4
    conv => whnf
    refine IxD.nat k x g1 g2 ?_
    conv => whnf
    exact q x p' [] g3 hp'
  · refine call_def rfl rfl ?_
    repeat' law_side
    refine c_draw hp hn (by omega) (by omega) fun r p' fin h3 h4 hp' => ?_
    obtain ⟨x, k, g1, g2, g3⟩ := ix_one h3 h4
    conv => whnf
    refine IxT.leaf (IxD.nat k x g1 g2 fun j _ => ?_)
    conv => whnf
    exact q x p' [] g3 hp'
/-- .. of a list that is not the caller's: lists in place -/
theorem c_pickL {k n : Nat} {p : OT} {ts : List OT} (xs : List D) (ht : ts = xs.map .leaf) (hp : Pot n p) (hn : n < 1000000000000000000) (h1 : 1 ≤ xs.length) (h2 : xs.length < 1073741824) (q : ∀ (x : D) (p' : OT) (fin : List (Option OT)), x ∈ xs → Pot (n + 1) p' → Q (.leaf x) (some p' :: some (.lst ts) :: fin)) :
    CallP (run P0 (k + 2) i__law_pick) [p, .lst ts] Q := by
  subst ht
  exact c_pick xs hp hn (.inr (.inr rfl)) h1 h2 q
theorem cut_ints (ns : List Int) (m : Nat) : ∃ ms : List Int, cutD (ns.map PyData.int) none (some (m : Int)) = ms.map PyData.int ∧ ms.length ≤ m := by
  unfold cutD
  refine ⟨(ns.drop (HT.sIx (ns.map PyData.int).length 0 none)).take (HT.sIx (ns.map PyData.int).length (ns.map PyData.int).length (some (m : Int)) - HT.sIx (ns.map PyData.int).length 0 none), by rw [List.map_take, List.map_drop], ?_⟩
  rw [List.length_take]
  refine Nat.le_trans (Nat.min_le_left _ _) (Nat.le_trans (Nat.sub_le _ _) ?_)
  rw [HT.sIx_nat _ _ m]
  exact Nat.min_le_left _ _
theorem c_pot {k : Nat} {ns : List Int} (hn : ns.length ≤ 63) (q : ∀ (p : OT) (fin : List (Option OT)), Pot 0 p → Q p fin) : CallP (run P0 (k + 1) i__law_pot) [.leaf (.list (ns.map .int))] Q := by
  refine call_def rfl rfl ?_
  conv => whnf
  obtain ⟨ms, h1, h2⟩ := cut_ints ns 61
  refine LvP.mk ⟨cutD (ns.map PyData.int) none (some 61), leaves_leafs _, ?_⟩
  rw [show cutD (ns.map PyData.int) none (some 61) = ms.map PyData.int from h1]
  wrow_raised
  refine comp_map ms PyData.int (fun z => .int (2 * (if z < 0 then -z else z) + (if decide (z < 0) = true then 1 else 0))) (by rw [sizeLine_eq]; omega) rfl (by simp) rfl (fun x hx => ?_) ?_
  · wrow_close
  wrow_raised
  generalize hg : (fun z : Int => 2 * (if z < 0 then -z else z) + (if decide (z < 0) = true then 1 else 0)) = g
  have g0 : ∀ z, 0 ≤ g z := fun z => by
    rw [← hg]
    show 0 ≤ 2 * (if z < 0 then -z else z) + (if decide (z < 0) = true then 1 else 0)
    split <;> split <;> omega
  have e1 : ms.map (fun z : Int => PyData.int (2 * (if z < 0 then -z else z) + (if decide (z < 0) = true then 1 else 0))) = (ms.map g).map .int := by rw [List.map_map, ← hg]; rfl
  rw [e1]
  have z0 : ∀ c ∈ ms.map g, 0 ≤ c := fun c hc => by
    obtain ⟨z, _, rfl⟩ := List.mem_map.mp hc
    exact g0 z
  have zl : (ms.map g).length ≤ 61 := by rw [List.length_map]; exact h2
  generalize ms.map g = zs at z0 zl
  refine for_rule zs PyData.int [2, 3] (fun _ _ => fun | [y, z] => ∃ i, y = some (iT i) ∧ 0 ≤ i ∧ i < 4294967291 ∧ (z = none ∨ ∃ d, z = some (.leaf d)) | _ => False) rfl (by simp) ⟨rfl, _, rfl, by simp⟩ ⟨_, rfl, by omega, by omega, .inl rfl⟩ ?_ ?_
  · rintro pre x r _ _ _ ⟨i, rfl, h3, h4, _⟩ c
    wrow_raised
    exact ⟨_, rfl, Int.emod_nonneg _ (by omega), Int.emod_lt_of_pos _ (by omega), .inr ⟨_, rfl⟩⟩
  have fin : ∀ {i : Int} {Q' : OT → List (Option OT) → Prop} {f}, 0 ≤ i → i < 4294967291 → (∀ p, Pot 0 p → Q' p f) → Q' (.nod (some [.inr "great", .inr "stirred", .inr "turn"]) [.lst (((zs.filter fun z => decide ((10 : Int) ^ Int.toNat 16 ≤ z)).map PyData.int).map .leaf), iT i, iT 0]) f := fun h3 h4 h => by
    refine h _ ⟨zs.filter fun z => decide ((10 : Int) ^ Int.toNat 16 ≤ z), _, 0, rfl, fun c hc => z0 c (List.mem_filter.mp hc).1, h3, h4, ?_, by decide, by decide⟩
    exact Nat.le_trans (List.length_filter_le _ _) (by omega)
  rintro _ _ ⟨i, rfl, h3, h4, rfl | ⟨d, rfl⟩⟩ c
  · wrow_raised
    refine comp_sel zs PyData.int (fun z => (10 : Int) ^ Int.toNat 16 ≤ z) (fun z => .int z) (by rw [sizeLine_eq]; omega) rfl (by simp) ⟨rfl, _, rfl, by simp⟩ (fun x hx => ?_) ?_
    · wrow_close
    wrow_raised
    exact fin h3 h4 fun p hp => q p _ hp
  · wrow_raised
    refine comp_sel zs PyData.int (fun z => (10 : Int) ^ Int.toNat 16 ≤ z) (fun z => .int z) (by rw [sizeLine_eq]; omega) rfl (by simp) ⟨rfl, _, rfl, by simp⟩ (fun x hx => ?_) ?_
    · wrow_close
    wrow_raised
    exact fin h3 h4 fun p hp => q p _ hp
end

/-! kinds of data with this pot -/
def opq (B : Nat) : A.Opq := ⟨fun n t => Pot (B + n) t, fun n t h => by obtain ⟨cs, a, b, rfl, _⟩ := h; exact ⟨_, _, rfl⟩, fun n m t h l => Pot.mono h (by omega)⟩
def sm (_ f : Nat) (as : List A.AV) : Option (A.AV × List A.AS) := if f = i__law_draw then (match as with
  | [.o n, .d (.int lo hi)] => if 1 ≤ lo ∧ hi < 1073741824 ∧ n < 1000000000 then some (.d (.int 0 (hi - 1)), [.v (.o (n + 1)), .any]) else none
  | _ => none) else none
theorem sm_ok {B : Nat} (hB : B ≤ 100000000000000000) : A.SumOk (opq B) P0 sm i__law_draw := ⟨by
  intro k f as a fs ts h q
  unfold sm at h
  split at h
  · rename_i hf
    subst hf
    split at h
    · rename_i n lo hi
      split at h
      · rename_i c
        cases h
        cases q with
        | @cons _ u _ _ q1 q2 =>
          cases q2 with
          | cons q2 q3 =>
            cases q3
            obtain ⟨d, rfl, m, rfl, c1, c2⟩ := q2
            have h := c_draw (Q := fun t fin => ∃ (r : Int) (p' : OT) (fin' : List (Option OT)), 0 ≤ r ∧ r < m ∧ Pot (B + n + 1) p' ∧ t = iT r ∧ fin = some p' :: fin') (k := k) q1 (by omega) (show 1 ≤ m by omega) (by omega) fun r p' fin a b c => ⟨r, p', fin, a, b, c, rfl, rfl⟩
            obtain ⟨t, fin, e, hl, r, p', fin', h1, h2, h3, rfl, rfl⟩ := h
            refine ⟨_, _, e, hl, ⟨_, rfl, r, rfl, h1, by omega⟩, ?_, fun _ => ⟨u, m.toNat, r.toNat, ?_, ?_, by omega⟩⟩
            · cases fin' with
              | nil => cases hl
              | cons x fin' =>
                cases fin' with
                | nil => exact .cons ⟨p', rfl, h3⟩ (.cons trivial .nil)
                | cons _ _ => cases hl
            · rw [show ((m.toNat : Nat) : Int) = m by omega]
            · rw [show ((r.toNat : Nat) : Int) = r by omega]; rfl
      · cases h
    · cases h
  · cases h⟩

/-! tables -/
abbrev lotT : A.Ty := .or .none (.seq false (.int 0 3) 1 4)
abbrev rowT : A.Ty := .tup false (.cons (.seq false lotT 3 3) (.cons (.int 0 4) .nil))
abbrev tabT (lo hi : Nat) : A.AV := .d (.seq false rowT lo hi)
abbrev Lot := Option (List Int)
abbrev Row := List Lot × Int
def lotD : Lot → D
  | none => .none
  | some l => .tuple (l.map .int)
def rowD (r : Row) : D := .tuple [.tuple (r.1.map lotD), .int r.2]
def tbD (t : List Row) : D := .tuple (t.map rowD)
def LotOk (l : Lot) : Prop := ∀ xs, l = some xs → xs.length ≤ 4 ∧ ∀ x ∈ xs, 0 ≤ x ∧ x ≤ 3
def RowOk (r : Row) : Prop := r.1.length = 3 ∧ (∀ l ∈ r.1, LotOk l) ∧ 0 ≤ r.2 ∧ r.2 ≤ 4
def TabOk (n : Nat) (t : List Row) : Prop := t.length ≤ n ∧ ∀ r ∈ t, RowOk r
theorem lot_dec {d : D} (h : A.has lotT d) : ∃ l, d = lotD l ∧ LotOk l := by
  rcases h with h | ⟨xs, rfl, h1, h2, h3⟩
  · exact ⟨none, h, fun xs e => nomatch e⟩
  · obtain ⟨ns, rfl, h4⟩ := A.ints_dec h3
    rw [List.length_map] at h2
    exact ⟨some ns, rfl, fun xs e => by cases e; exact ⟨h2, h4⟩⟩
theorem row_dec {d : D} (h : A.has rowT d) : ∃ r, d = rowD r ∧ RowOk r := by
  obtain ⟨xs, rfl, x, ys, rfl, ⟨zs, rfl, h1, h2, h3⟩, y, ws, rfl, ⟨i, rfl, h4, h5⟩, h6⟩ := h
  cases h6
  obtain ⟨ls, rfl, h7⟩ := A.all_dec (fun _ => lot_dec) h3
  rw [List.length_map] at h1 h2
  exact ⟨(ls, i), rfl, by show ls.length = 3; omega, h7, h4, h5⟩
theorem tab_dec {B lo hi : Nat} {t : OT} (h : A.γ (opq B) (tabT lo hi) t) : ∃ rs, t = .leaf (tbD rs) ∧ TabOk hi rs ∧ lo ≤ rs.length := by
  obtain ⟨d, rfl, xs, rfl, h1, h2, h3⟩ := h
  obtain ⟨rs, rfl, h4⟩ := A.all_dec (fun _ => row_dec) h3
  rw [List.length_map] at h1 h2
  exact ⟨rs, rfl, ⟨h2, h4⟩, h1⟩
theorem lot_enc {l : Lot} (h : LotOk l) (hn : ∀ xs, l = some xs → 1 ≤ xs.length) : A.has lotT (lotD l) := by
  cases l with
  | none => exact .inl rfl
  | some xs =>
    obtain ⟨h1, h2⟩ := h xs rfl
    exact .inr ⟨xs.map .int, rfl, by rw [List.length_map]; exact hn xs rfl, by rw [List.length_map]; exact h1, fun x hx => by
      obtain ⟨i, hi, rfl⟩ := List.mem_map.mp hx
      exact ⟨i, rfl, h2 i hi⟩⟩
/-! sorts -/
abbrev Srt := List Int
def sD (s : Srt) : D := .tuple (s.map .int)
def allS : List Srt := (List.range 64).map fun k => [((k / 16 : Nat) : Int), ((k / 4 % 4 : Nat) : Int), ((k % 4 : Nat) : Int)]
def optD : Option Nat → D
  | none => .none
  | some n => .int n
def optI : Option Int → D
  | none => .none
  | some n => .int n
def fit (s : Srt) (r : Row) : Bool := (s.zip r.1).all fun p => match p.2 with
  | none => true
  | some l => decide (p.1 ∈ l)
def dec (t : List Row) (s : Srt) : Option Nat := t.findIdx? (fit s)
def pri (t : List Row) (s : Srt) : Option Int := (t.find? (fit s)).map (·.2)
section
variable {Q : OT → List (Option OT) → Prop}
theorem c_sorts3 (q : ∀ fin, Q (.lst ((allS.map sD).map .leaf)) fin) : CallP (run P0 3 i_all_sorts) [] Q := CallP.givesL (by decide +kernel) (q _)
theorem c_lsorts3 (q : ∀ fin, Q (.lst ((allS.map sD).map .leaf)) fin) : CallP (run P0 3 i__law_sorts) [] Q := CallP.givesL (by decide +kernel) (q _)
theorem c_lsorts4 (q : ∀ fin, Q (.lst ((allS.map sD).map .leaf)) fin) : CallP (run P0 4 i__law_sorts) [] Q := CallP.givesL (by decide +kernel) (q _)
end

section
variable {Q : OT → List (Option OT) → Prop}
theorem len_zip {s : Srt} {r : Row} (hr : RowOk r) (hs : s.length = 3) : (s.zip r.1).length = 3 := by
  rw [List.length_zip, hr.1, hs]; rfl
theorem sz3 {n : Nat} (h : n ≤ 64) : n ≤ sizeLine := by rw [sizeLine_eq]; omega
def fp (p : Int × Lot) : Bool := match p.2 with
  | none => true
  | some l => decide (p.1 ∈ l)
theorem c_fit {k : Nat} {s : Srt} {r : Row} (hr : RowOk r) (hs : s.length = 3) (q : ∀ fin, Q (.leaf (.bool (fit s r))) fin) : CallP (run P0 (k + 1) i_does_fit) [.leaf (sD s), .leaf (rowD r)] Q := by
  have hl := len_zip hr hs
  refine call_def rfl rfl ?_
  wrow_raised
  refine comp_map (s.zip r.1) (fun p => .tuple [.int p.1, lotD p.2]) (fun p => .bool (fp p)) (by rw [hl]; exact sz3 (by decide)) rfl (by rw [zipD_map, List.length_map]) (gv_fix zipD_map) (fun x hx => ?_) ?_
  · obtain ⟨a, l⟩ := x
    cases l with
    | none => wrow_close
    | some l =>
      wrow_raised
      refine InP.tup ?_
      wrow_close
  wrow_raised
  rw [show ((s.zip r.1).map fp).all id = fit s r by rw [List.all_map]; rfl]
  exact q _
theorem c_lfit {k : Nat} {s : Srt} {r : Row} (hr : RowOk r) (hs : s.length = 3) (q : ∀ fin, Q (.leaf (.bool (fit s r))) fin) : CallP (run P0 (k + 1) i__law_fits) [.leaf (rowD r), .leaf (sD s)] Q := by
  have hl := len_zip hr hs
  have hl' : (r.1.zip s).length = 3 := by rw [List.length_zip, hr.1, hs]; rfl
  refine call_def rfl rfl ?_
  wrow_raised
  refine comp_sel (r.1.zip s) (fun p => .tuple [lotD p.1, .int p.2]) (fun p => fp (p.2, p.1) = false) (fun _ => .int 0) (by rw [hl']; exact sz3 (by decide)) rfl (by rw [zipD_map, List.length_map]) (gv_fix zipD_map) (fun x hx => ?_) ?_
  · obtain ⟨l, a⟩ := x
    cases l with
    | none => wrow_close
    | some l =>
      wrow_raised
      refine InP.tup ?_
      repeat' (first | law_side | w_left)
      · rename_i c
        exact ⟨_, rfl, if_pos (by show decide (a ∈ l) = false; exact decide_eq_false c)⟩
      · rename_i c
        refine if_neg (by show ¬ decide (a ∈ l) = false; rw [decide_eq_true c]; decide)
  wrow_raised
  refine EqP.nil (Sp.shaped (Sp.list (Sps.map fun _ _ => Sp.int)) (by decide)) ?_
  have e : (((r.1.zip s).filter fun p => decide (fp (p.2, p.1) = false)).map fun _ => PyData.int 0).isEmpty = fit s r := by
    have go : ∀ (a : List Lot) (b : Srt), (((a.zip b).filter fun p => decide (fp (p.2, p.1) = false)).map fun _ => PyData.int 0).isEmpty = (b.zip a).all fp := by
      intro a
      induction a with
      | nil => intro b; cases b <;> rfl
      | cons x a ih =>
        intro b
        cases b with
        | nil => rfl
        | cons y b =>
          have := ih b
          rw [List.zip_cons_cons, List.zip_cons_cons, List.filter_cons, List.all_cons, ← this]
          cases fp (y, x) <;> simp
    exact go r.1 s
  rw [e]
  wrow_raised
  exact q _
end

theorem findIdx_pre {α : Type} {p : α → Bool} : ∀ {pre : List α} {x : α} {r : List α}, (∀ y ∈ pre, p y = false) → p x = true → (pre ++ x :: r).findIdx? p = some pre.length
  | [], x, r, _, h => by simp [List.findIdx?_cons, h]
  | y :: pre, x, r, h, hx => by
    have h1 := h y List.mem_cons_self
    have h2 := findIdx_pre (r := r) (fun z hz => h z (List.mem_cons_of_mem _ hz)) hx
    rw [List.cons_append, List.findIdx?_cons, h1, h2]
    rfl
theorem findIdx_none {α : Type} {p : α → Bool} {l : List α} (h : ∀ y ∈ l, p y = false) : l.findIdx? p = none := by
  rw [List.findIdx?_eq_none_iff]
  exact h
theorem find_pre {α : Type} {p : α → Bool} : ∀ {pre : List α} {x : α} {r : List α}, (∀ y ∈ pre, p y = false) → p x = true → (pre ++ x :: r).find? p = some x
  | [], x, r, _, h => by simp [h]
  | y :: pre, x, r, h, hx => by
    have h1 := h y List.mem_cons_self
    have h2 := find_pre (r := r) (fun z hz => h z (List.mem_cons_of_mem _ hz)) hx
    rw [List.cons_append, List.find?_cons, h1, h2]
theorem find_none {α : Type} {p : α → Bool} {l : List α} (h : ∀ y ∈ l, p y = false) : l.find? p = none := by
  rw [List.find?_eq_none]
  intro y hy
  rw [h y hy]; decide
section
variable {Q : OT → List (Option OT) → Prop}
theorem c_dec {k n : Nat} {s : Srt} {t : List Row} (ht : TabOk n t) (hs : s.length = 3) (q : ∀ fin, Q (.leaf (optD (dec t s))) fin) : CallP (run P0 (k + 2) i_deciding) [.leaf (tbD t), .leaf (sD s)] Q := by
  refine call_def rfl rfl ?_
  wrow_raised
  refine for_rule t.zipIdx (fun p => .tuple [.int p.2, rowD p.1]) [] (fun pre _ => fun | [] => ∀ p ∈ pre, fit s p.1 = false | _ => False) rfl (by simp) (gv_fix enumD_map) (fun p h => nomatch h) ?_ ?_
  · rintro pre ⟨r, i⟩ rest hx hg j
    obtain ⟨h1, h2⟩ := zipIdx_split hx
    have hr : RowOk r := ht.2 r (by rw [h2]; simp)
    wrow_raised
    refine c_fit hr hs fun fin => ?_
    cases hf : fit s r with
    | true =>
      wrow_raised
      have e : dec t s = some i := by
        unfold dec
        rw [h2, findIdx_pre (fun y hy => ?_) hf, List.length_map]
        · congr 1; omega
        · obtain ⟨p, hp, rfl⟩ := List.mem_map.mp hy
          exact hg p hp
      rw [e] at q
      exact q _
    | false =>
      wrow_raised
      intro p hp
      rcases List.mem_append.mp hp with hp | hp
      · exact hg p hp
      · rw [List.mem_singleton.mp hp]; exact hf
  intro hg j
  wrow_raised
  have e : dec t s = none := findIdx_none fun y hy => by
    have : y ∈ t.zipIdx.map (·.1) := by rw [List.zipIdx_map_fst]; exact hy
    obtain ⟨p, hp, rfl⟩ := List.mem_map.mp this
    exact hg p hp
  rw [e] at q
  exact q _
theorem c_ldec {k n : Nat} {s : Srt} {t : List Row} (ht : TabOk n t) (hs : s.length = 3) (q : ∀ fin, Q (.leaf (optD (dec t s))) fin) : CallP (run P0 (k + 2) i__law_deciding) [.leaf (tbD t), .leaf (sD s)] Q := by
  refine call_def rfl rfl ?_
  wrow_raised
  refine for_rule t.zipIdx (fun p => .tuple [.int p.2, rowD p.1]) [] (fun pre _ => fun | [] => ∀ p ∈ pre, fit s p.1 = false | _ => False) rfl (by simp) (gv_fix enumD_map) (fun p h => nomatch h) ?_ ?_
  · rintro pre ⟨r, i⟩ rest hx hg j
    obtain ⟨h1, h2⟩ := zipIdx_split hx
    have hr : RowOk r := ht.2 r (by rw [h2]; simp)
    wrow_raised
    refine c_lfit hr hs fun fin => ?_
    cases hf : fit s r with
    | true =>
      wrow_raised
      have e : dec t s = some i := by
        unfold dec
        rw [h2, findIdx_pre (fun y hy => ?_) hf, List.length_map]
        · congr 1; omega
        · obtain ⟨p, hp, rfl⟩ := List.mem_map.mp hy
          exact hg p hp
      rw [e] at q
      exact q _
    | false =>
      wrow_raised
      intro p hp
      rcases List.mem_append.mp hp with hp | hp
      · exact hg p hp
      · rw [List.mem_singleton.mp hp]; exact hf
  intro hg j
  wrow_raised
  have e : dec t s = none := findIdx_none fun y hy => by
    have : y ∈ t.zipIdx.map (·.1) := by rw [List.zipIdx_map_fst]; exact hy
    obtain ⟨p, hp, rfl⟩ := List.mem_map.mp this
    exact hg p hp
  rw [e] at q
  exact q _
theorem pri_dec (t : List Row) (s : Srt) : (dec t s = none ∧ pri t s = none) ∨ ∃ i r, dec t s = some i ∧ t[i]? = some r ∧ pri t s = some r.2 := by
  unfold dec pri
  induction t with
  | nil => left; exact ⟨rfl, rfl⟩
  | cons r t ih =>
    rw [List.findIdx?_cons, List.find?_cons]
    cases hf : fit s r with
    | true => right; exact ⟨0, r, by simp, rfl, rfl⟩
    | false =>
      rcases ih with ⟨h1, h2⟩ | ⟨i, x, h1, h2, h3⟩
      · left; exact ⟨by simp [h1], h2⟩
      · right; exact ⟨i + 1, x, by simp [h1], by simpa using h2, h3⟩
theorem c_pri {k n : Nat} {s : Srt} {t : List Row} (ht : TabOk n t) (hs : s.length = 3) (q : ∀ fin, Q (.leaf (optI (pri t s))) fin) : CallP (run P0 (k + 3) i_priority_of) [.leaf (tbD t), .leaf (sD s)] Q := by
  refine call_def rfl rfl ?_
  wrow_raised
  refine c_dec ht hs fun fin => ?_
  rcases pri_dec t s with ⟨h1, h2⟩ | ⟨i, r, h1, h2, h3⟩
  · rw [h1]
    rw [h2] at q
    wrow_raised
    exact q _
  · rw [h1]
    rw [h3] at q
    wrow_raised
    refine IxD.nat i (rowD r) rfl (by rw [List.getElem?_map, h2]; rfl) ?_
    wrow_raised
    exact q _
theorem c_lpri {k n : Nat} {s : Srt} {t : List Row} (ht : TabOk n t) (hs : s.length = 3) (q : ∀ fin, Q (.leaf (optI (pri t s))) fin) : CallP (run P0 (k + 3) i__law_priority) [.leaf (tbD t), .leaf (sD s)] Q := by
  refine call_def rfl rfl ?_
  wrow_raised
  refine c_ldec ht hs fun fin => ?_
  rcases pri_dec t s with ⟨h1, h2⟩ | ⟨i, r, h1, h2, h3⟩
  · rw [h1]
    rw [h2] at q
    wrow_raised
    exact q _
  · rw [h1]
    rw [h3] at q
    wrow_raised
    refine IxD.nat i (rowD r) rfl (by rw [List.getElem?_map, h2]; rfl) ?_
    wrow_raised
    exact q _
theorem optI_sp (o : Option Int) : Sp 0 (optI o) := by cases o; exact Sp.none; exact Sp.int
theorem EqP.opt {a b : Option Int} {K : Bool → Prop} (k : K (decide (a = b))) : EqP (optI a) (optI b) K := by
  refine ⟨(optI_sp a).shaped (by decide), (optI_sp b).shaped (by decide), ?_⟩
  have : PyData.eqv (optI a) (optI b) = decide (a = b) := by
    cases a with
    | none => cases b with
      | none => rfl
      | some y => simp [optI, PyData.eqv]
    | some x => cases b with
      | none => simp [optI, PyData.eqv]
      | some y =>
        show PyData.eqv (.int x) (.int y) = _
        rw [eqv_int]
        simp
  rw [this]; exact k
def unl (a b : List Row) : Option Srt := allS.find? fun s => decide (pri a s ≠ pri b s)
def optS : Option Srt → D
  | none => .none
  | some s => sD s
theorem allS_len : ∀ s ∈ allS, s.length = 3 := fun s hs => by
  obtain ⟨k, _, rfl⟩ := List.mem_map.mp hs
  rfl
theorem c_unl {m n : Nat} {a b : List Row} (ha : TabOk n a) (hb : TabOk m b) (q : ∀ fin, Q (.leaf (optS (unl a b))) fin) : CallP (run P0 4 i_first_unlike) [.leaf (tbD a), .leaf (tbD b)] Q := by
  refine call_def rfl rfl ?_
  wrow_raised
  refine c_sorts3 fun fin => ?_
  wrow_raised
  refine for_rule allS sD [] (fun pre _ => fun | [] => ∀ s ∈ pre, decide (pri a s ≠ pri b s) = false | _ => False) rfl (by simp) (gv_fix rfl) (fun p h => nomatch h) ?_ ?_
  · rintro pre s rest hx hg j
    have hs := allS_len s (by rw [hx]; simp)
    wrow_raised
    refine c_pri ha hs fun fin => ?_
    wrow_raised
    refine c_pri hb hs fun fin => ?_
    wrow_raised
    refine EqP.opt ?_
    by_cases c : pri a s = pri b s
    · rw [decide_eq_true c]
      wrow_raised
      intro p hp
      rcases List.mem_append.mp hp with hp | hp
      · exact hg p hp
      · rw [List.mem_singleton.mp hp]; simp [c]
    · rw [decide_eq_false c]
      wrow_raised
      have e : unl a b = some s := by
        unfold unl
        rw [hx]
        exact find_pre hg (by simp [c])
      rw [e] at q
      exact q _
  intro hg j
  wrow_raised
  have e : unl a b = none := find_none hg
  rw [e] at q
  exact q _
theorem sp_srts (l : List Srt) : Sp 2 (.list (l.map sD)) := Sp.list (Sps.map fun _ _ => Sp.tuple (Sps.map fun _ _ => Sp.int))
theorem c_lunl {m n : Nat} {a b : List Row} (ha : TabOk n a) (hb : TabOk m b) (q : ∀ fin, Q (.leaf (optS (unl a b))) fin) : CallP (run P0 4 i__law_unlike) [.leaf (tbD a), .leaf (tbD b)] Q := by
  refine call_def rfl rfl ?_
  wrow_raised
  refine c_lsorts3 fun fin => ?_
  wrow_raised
  refine comp_sel allS sD (fun s => decide (pri a s ≠ pri b s) = true) sD (sz64 (by decide)) rfl (by simp) (gv_fix rfl) (fun s hs => ?_) ?_
  · have hl := allS_len s hs
    wrow_raised
    refine c_lpri ha hl fun fin => ?_
    wrow_raised
    refine c_lpri hb hl fun fin => ?_
    wrow_raised
    refine EqP.opt ?_
    by_cases c : pri a s = pri b s
    · rw [decide_eq_true c]
      wrow_raised
      rw [if_neg (by simp [c])]
    · rw [decide_eq_false c]
      wrow_raised
      exact ⟨_, rfl, if_pos (by simp [c])⟩
  have e : ∀ l : List Srt, (∃ f : Srt, ∃ r, l.filter (fun s => decide (decide (pri a s ≠ pri b s) = true)) = f :: r ∧ l.find? (fun s => decide (pri a s ≠ pri b s)) = some f) ∨ (l.filter (fun s => decide (decide (pri a s ≠ pri b s) = true)) = [] ∧ l.find? (fun s => decide (pri a s ≠ pri b s)) = none) := by
    intro l
    induction l with
    | nil => right; exact ⟨rfl, rfl⟩
    | cons x l ih =>
      rw [List.filter_cons, List.find?_cons]
      by_cases c : pri a x = pri b x
      · simpa [c] using ih
      · left; exact ⟨x, _, by simp [c]; rfl, by simp [c]⟩
  rcases e allS with ⟨f, r, h1, h2⟩ | ⟨h1, h2⟩
  · have h2 : unl a b = some f := h2
    rw [h1]
    rw [h2] at q
    wrow_raised
    refine EqP.nil ((sp_srts _).shaped (by decide)) ?_
    wrow_raised
    refine IxT.leaf (IxD.nat 0 (sD f) rfl rfl fun _ _ => ?_)
    wrow_raised
    exact q _
  · have h2 : unl a b = none := h2
    rw [h1]
    rw [h2] at q
    wrow_raised
    refine EqP.nil ((sp_srts _).shaped (by decide)) ?_
    wrow_raised
    exact q _
end

/-! a table's core -/
def coreR : List Row → List Srt → List Row
  | [], _ => []
  | r :: rs, S => (if S.any (fun s => fit s r) = true then [r] else []) ++ coreR rs (S.filter fun s => !fit s r)
def core (t : List Row) : List Row := coreR t allS
theorem filter_any {S : List Srt} {r : Row} (h : ¬ S.any (fun s => fit s r) = true) : (S.filter fun s => !fit s r) = S := by
  rw [List.filter_eq_self]
  intro s hs
  cases hf : fit s r with
  | false => rfl
  | true => exact absurd (List.any_eq_true.mpr ⟨s, hs, hf⟩) h
theorem core_core : ∀ (t : List Row) (S : List Srt), coreR (coreR t S) S = coreR t S
  | [], _ => rfl
  | r :: rs, S => by
    have e : coreR (r :: rs) S = (if S.any (fun s => fit s r) = true then [r] else []) ++ coreR rs (S.filter fun s => !fit s r) := rfl
    rw [e]
    by_cases c : S.any (fun s => fit s r) = true
    · rw [if_pos c]
      show (if S.any (fun s => fit s r) = true then [r] else []) ++ coreR (coreR rs (S.filter fun s => !fit s r)) (S.filter fun s => !fit s r) = _
      rw [if_pos c, core_core]
    · rw [if_neg c, filter_any c]
      exact core_core rs S
theorem core_find : ∀ (t : List Row) (S : List Srt) (s : Srt), s ∈ S → (coreR t S).find? (fit s) = t.find? (fit s)
  | [], _, _, _ => rfl
  | r :: rs, S, s, hs => by
    show ((if S.any (fun s => fit s r) = true then [r] else []) ++ coreR rs (S.filter fun s => !fit s r)).find? (fit s) = _
    rw [List.find?_append, List.find?_cons]
    cases hf : fit s r with
    | true =>
      rw [if_pos (List.any_eq_true.mpr ⟨s, hs, hf⟩)]
      simp [hf]
    | false =>
      have hm : s ∈ S.filter fun s => !fit s r := List.mem_filter.mpr ⟨hs, by rw [hf]; rfl⟩
      rw [core_find rs _ s hm]
      split <;> simp [hf]
theorem core_idx : ∀ (t : List Row) (S : List Srt) (k : Nat) (U : List (Option Nat)), (∀ i, some (k + i) ∈ U ↔ ∃ s ∈ S, t.findIdx? (fit s) = some i) → ((t.zipIdx k).filter fun p => decide (some p.2 ∈ U)).map (·.1) = coreR t S
  | [], _, _, _, _ => rfl
  | r :: rs, S, k, U, h => by
    have ih := core_idx rs (S.filter fun s => !fit s r) (k + 1) U fun i => by
      rw [show k + 1 + i = k + (i + 1) by omega, h (i + 1)]
      constructor
      · rintro ⟨s, hs, e⟩
        rw [List.findIdx?_cons] at e
        cases hf : fit s r with
        | true => rw [hf] at e; simp at e
        | false =>
          rw [hf] at e
          refine ⟨s, List.mem_filter.mpr ⟨hs, by rw [hf]; rfl⟩, ?_⟩
          simpa using e
      · rintro ⟨s, hs, e⟩
        obtain ⟨h1, h2⟩ := List.mem_filter.mp hs
        have hf : fit s r = false := by simpa using h2
        refine ⟨s, h1, ?_⟩
        rw [List.findIdx?_cons, hf, e]
        rfl
    have h0 := h 0
    have e0 : some k ∈ U ↔ S.any (fun s => fit s r) = true := by
      rw [show k = k + 0 from rfl, h0, List.any_eq_true]
      constructor
      · rintro ⟨s, hs, e⟩
        refine ⟨s, hs, ?_⟩
        rw [List.findIdx?_cons] at e
        cases hf : fit s r with
        | true => rfl
        | false => rw [hf] at e; simp at e
      · rintro ⟨s, hs, hf⟩
        exact ⟨s, hs, by rw [List.findIdx?_cons, hf]; rfl⟩
    rw [List.zipIdx_cons, List.filter_cons]
    show _ = (if S.any (fun s => fit s r) = true then [r] else []) ++ coreR rs (S.filter fun s => !fit s r)
    rw [← ih]
    by_cases c : some k ∈ U
    · rw [if_pos (e0.mp c), if_pos (by simpa using c)]
      rfl
    · rw [if_neg (fun z => c (e0.mpr z)), if_neg (by simpa using c)]
      rfl
theorem core_sub {t : List Row} {S : List Srt} : ∀ r ∈ coreR t S, r ∈ t := by
  induction t generalizing S with
  | nil => intro r h; exact h
  | cons x t ih =>
    intro r h
    rcases List.mem_append.mp (show r ∈ (if S.any (fun s => fit s x) = true then [x] else []) ++ coreR t (S.filter fun s => !fit s x) from h) with h | h
    · split at h
      · rw [List.mem_singleton.mp h]; exact List.mem_cons_self
      · cases h
    · exact List.mem_cons_of_mem _ (ih r h)
theorem core_len {t : List Row} {S : List Srt} : (coreR t S).length ≤ t.length := by
  induction t generalizing S with
  | nil => exact Nat.le_refl _
  | cons x t ih =>
    have := ih (S := S.filter fun s => !fit s x)
    show ((if S.any (fun s => fit s x) = true then [x] else []) ++ coreR t (S.filter fun s => !fit s x)).length ≤ _
    rw [List.length_append, List.length_cons]
    split <;> simp <;> omega
theorem core_ok {n : Nat} {t : List Row} (h : TabOk n t) : TabOk n (core t) := ⟨Nat.le_trans core_len h.1, fun r hr => h.2 r (core_sub r hr)⟩
theorem core_unl {t : List Row} : unl t (core t) = none := find_none fun s hs => by
  have : pri (core t) s = pri t s := by unfold pri core; rw [core_find t allS s hs]
  simp [this]
theorem core_eq (t : List Row) : (t.zipIdx.filter fun p => decide (some p.2 ∈ allS.map (dec t))).map (·.1) = core t := core_idx t allS 0 _ fun i => by
  rw [Nat.zero_add, List.mem_map]
  rfl
theorem unl_symm (a b : List Row) : unl b a = unl a b := by
  unfold unl
  congr 1
  funext s
  by_cases c : pri a s = pri b s
  · simp [c]
  · have c' : ¬ pri b s = pri a s := fun z => c z.symm
    simp [c, c']
theorem optN_sp (o : Option Nat) : Sp 0 (optD o) := by cases o; exact Sp.none; exact Sp.int
theorem any_optD {i : Nat} : ∀ {l : List (Option Nat)}, ((l.map optD).any fun z => PyData.eqv z (.int i)) = decide (some i ∈ l)
  | [] => by simp
  | y :: r => by
    rw [List.map_cons, List.any_cons, any_optD]
    cases y with
    | none =>
      rw [show PyData.eqv (optD none) (.int i) = false by simp [optD, PyData.eqv]]
      simp
    | some j =>
      rw [show PyData.eqv (optD (some j)) (.int i) = decide ((j : Int) = i) from eqv_int]
      by_cases c : j = i
      · subst c; simp
      · have c' : ¬ i = j := fun z => c z.symm
        have c2 : ¬ (j : Int) = i := by omega
        simp [c', c2]
theorem InP.optD {i : Nat} {l : List (Option Nat)} {K : Bool → Prop} (k : K (decide (some i ∈ l))) : InP (.int i) (.list (l.map optD)) K := by
  refine ⟨_, ?_, k⟩
  unfold inSem
  simp only
  rw [if_pos (by rw [Sp.shaped (n := 1) (Sp.list (Sps.map fun x _ => optN_sp x)) (by decide)]; rfl), any_optD]
section
variable {Q : OT → List (Option OT) → Prop}
theorem c_core {n : Nat} {t : List Row} (ht : TabOk n t) (hn : n ≤ 100000) (q : ∀ fin, Q (.leaf (tbD (core t))) fin) : CallP (run P0 4 i_table_core) [.leaf (tbD t)] Q := by
  refine call_def rfl rfl ?_
  wrow_raised
  refine c_sorts3 fun fin => ?_
  wrow_raised
  refine comp_map allS sD (fun s => optD (dec t s)) (sz64 (by decide)) rfl (by simp) (gv_fix rfl) (fun s hs => ?_) ?_
  · wrow_raised
    refine c_dec ht (allS_len s hs) fun fin => ?_
    wrow_close
  have e1 : allS.map (fun s => optD (dec t s)) = (allS.map (dec t)).map optD := by rw [List.map_map]; rfl
  rw [e1]
  wrow_raised
  refine comp_sel t.zipIdx (fun p => .tuple [.int p.2, rowD p.1]) (fun p => decide (some p.2 ∈ allS.map (dec t)) = true) (fun p => rowD p.1) (by rw [List.length_zipIdx]; exact sz64 (Nat.le_trans ht.1 hn)) rfl (by simp) (gv_fix enumD_map) (fun p hp => ?_) ?_
  · wrow_raised
    refine InP.optD ?_
    by_cases c : some p.2 ∈ allS.map (dec t)
    · rw [decide_eq_true c]
      wrow_raised
      exact ⟨_, rfl, if_pos rfl⟩
    · rw [decide_eq_false c]
      wrow_raised
      exact if_neg Bool.false_ne_true
  have e2 : (t.zipIdx.filter fun p => decide (decide (some p.2 ∈ allS.map (dec t)) = true)).map (fun p => rowD p.1) = (core t).map rowD := by
    rw [← core_eq, List.map_map]
    congr 1
    congr 1
    funext p
    simp
  rw [e2]
  wrow_raised
  exact q _
end

theorem pl_row {r : Row} (h : RowOk r) : Pl 3 17 (rowD r) := by
  have hl : ∀ l ∈ r.1, Pl 1 4 (lotD l) := fun l hl => by
    cases l with
    | none => exact Pl.none.mono (by decide) (by decide)
    | some xs =>
      obtain ⟨h1, h2⟩ := h.2.1 _ hl xs rfl
      exact (Pl.tuple (Pls.map (G := PyData.int) (n := 0) (m := 0) (xs := xs) fun x hx => Pl.i (by have := h2 x hx; omega))).mono (by decide) (by omega)
  have h1 := (Pl.tuple (Pls.map (G := lotD) hl)).mono (Nat.le_refl _) (show r.1.length * (4 + 1) ≤ 15 by rw [h.1]; decide)
  exact (Pl.tuple (Pls.cons h1 (Pls.cons (Pl.i (by have := h.2.2; omega)) Pls.nil))).mono (by decide) (by decide)
theorem pl_tab {n : Nat} {t : List Row} (h : TabOk n t) (hn : n ≤ 50) : Pl 4 900 (tbD t) :=
  (Pl.tuple (Pls.map (G := rowD) fun r hr => pl_row (h.2 r hr))).mono (by decide) (by have := h.1; have : t.length * 18 ≤ 50 * 18 := Nat.mul_le_mul_right _ (by omega); omega)
theorem optS_pl {o : Option Srt} (h : ∀ s, o = some s → s.length = 3 ∧ ∀ x ∈ s, 0 ≤ x ∧ x ≤ 3) : Pl 1 8 (optS o) := by
  cases o with
  | none => exact Pl.none.mono (by decide) (by decide)
  | some s =>
    obtain ⟨h1, h2⟩ := h s rfl
    exact (Pl.tuple (Pls.map (G := PyData.int) (n := 0) (m := 0) (xs := s) fun x hx => Pl.i (by have := h2 x hx; omega))).mono (by decide) (by omega)
theorem allS_ok : ∀ s ∈ allS, s.length = 3 ∧ ∀ x ∈ s, 0 ≤ x ∧ x ≤ 3 := by decide +kernel
theorem unl_pl (a b : List Row) : Pl 1 8 (optS (unl a b)) := optS_pl fun s e => allS_ok s (List.mem_of_find?_eq_some e)
def may (A : List Row) (x y : Row) : Bool := decide (x.2 = y.2) || !(allS.any fun s => fit s x && (fit s y && (dec A s).isNone))
theorem dec_find {A : List Row} {s : Srt} : (dec A s).isNone = (A.find? (fit s)).isNone := by
  unfold dec
  induction A with
  | nil => rfl
  | cons x A ih =>
    rw [List.findIdx?_cons, List.find?_cons]
    cases fit s x with
    | true => rfl
    | false => simpa using ih
theorem pri_swap {A B : List Row} {x y : Row} {s : Srt} : pri (A ++ x :: y :: B) s = pri (A ++ y :: x :: B) s ↔ (x.2 = y.2 ∨ ¬ (fit s x && (fit s y && (dec A s).isNone)) = true) := by
  unfold pri
  rw [List.find?_append, List.find?_append, dec_find]
  cases A.find? (fit s) with
  | some z => simp
  | none =>
    simp only [Option.none_or, List.find?_cons]
    cases fit s x <;> cases fit s y <;> simp
theorem unl_swap {A B : List Row} {x y : Row} : isNone (optS (unl (A ++ x :: y :: B) (A ++ y :: x :: B))) = may A x y := by
  have e : unl (A ++ x :: y :: B) (A ++ y :: x :: B) = none ↔ may A x y = true := by
    unfold unl may
    rw [List.find?_eq_none, Bool.or_eq_true, decide_eq_true_eq, Bool.not_eq_true', Bool.eq_false_iff, ne_eq, List.any_eq_true]
    constructor
    · intro h
      by_cases c : x.2 = y.2
      · exact .inl c
      · refine .inr fun ⟨s, hs, z⟩ => ?_
        have := h s hs
        simp only [decide_eq_true_eq, ne_eq, Decidable.not_not] at this
        exact (pri_swap.mp this).elim c fun w => w z
    · intro h s hs
      simp only [decide_eq_true_eq, ne_eq, Decidable.not_not]
      exact pri_swap.mpr (h.imp id fun w z => w ⟨s, hs, z⟩)
  cases hm : may A x y with
  | true => rw [e.mpr hm]; rfl
  | false =>
    cases hu : unl (A ++ x :: y :: B) (A ++ y :: x :: B) with
    | none => rw [e.mp hu] at hm; cases hm
    | some s => rfl
section
variable {Q : OT → List (Option OT) → Prop}
theorem c_may {n : Nat} {A B : List Row} {x y : Row} (ht : TabOk n (A ++ x :: y :: B)) (q : ∀ fin, Q (.leaf (.bool (may A x y))) fin) : CallP (run P0 4 i__law_may_change) [.leaf (tbD (A ++ x :: y :: B)), iT A.length] Q := by
  have hx : RowOk x := ht.2 x (by simp)
  have hy : RowOk y := ht.2 y (by simp)
  have hA : TabOk n A := ⟨by have := ht.1; rw [List.length_append] at this; omega, fun r hr => ht.2 r (List.mem_append_left _ hr)⟩
  have ix : ∀ {K : D → Prop}, K (rowD x) → IxD ((A ++ x :: y :: B).map rowD) A.length K := fun h => IxD.nat A.length _ rfl (by simp) h
  have iy : ∀ {K : D → Prop}, K (rowD y) → IxD ((A ++ x :: y :: B).map rowD) (A.length + 1) K := fun h => IxD.nat (A.length + 1) _ rfl (by simp) h
  refine call_def rfl rfl ?_
  wrow_raised
  refine ix ?_
  wrow_raised
  refine iy ?_
  repeat' (first | law_side | w_left)
  · rename_i c
    have : may A x y = true := by unfold may; rw [decide_eq_true c]; rfl
    rw [this] at q
    exact q _
  · rename_i c
    conv => whnf
    refine c_lsorts3 fun fin => ?_
    wrow_raised
    refine for_rule allS sD [] (fun pre _ => fun | [] => ∀ s ∈ pre, (fit s x && (fit s y && (dec A s).isNone)) = false | _ => False) rfl (by simp) (gv_fix rfl) (fun p h => nomatch h) ?_ ?_
    · rintro pre s rest hpre hg j
      have hs := allS_len s (by rw [hpre]; simp)
      have bad : (fit s x && (fit s y && (dec A s).isNone)) = true → ∀ fin, Q (.leaf (.bool false)) fin := fun z fin => by
        have : may A x y = false := by
          unfold may
          rw [decide_eq_false c, List.any_eq_true.mpr ⟨s, by rw [hpre]; simp, z⟩]
          rfl
        rw [this] at q
        exact q _
      have ok : (fit s x && (fit s y && (dec A s).isNone)) = false → ∀ p ∈ pre ++ [s], (fit p x && (fit p y && (dec A p).isNone)) = false := fun z p hp => by
        rcases List.mem_append.mp hp with hp | hp
        · exact hg p hp
        · rw [List.mem_singleton.mp hp]; exact z
      wrow_raised
      refine ix ?_
      wrow_raised
      refine c_lfit hx hs fun fin => ?_
      cases fx : fit s x with
      | false =>
        rw [fx] at ok
        wrow_raised
        exact ok rfl
      | true =>
        wrow_raised
        refine iy ?_
        wrow_raised
        refine c_lfit hy hs fun fin => ?_
        cases fy : fit s y with
        | false =>
          rw [fx, fy] at ok
          wrow_raised
          exact ok rfl
        | true =>
          rw [fx, fy] at ok bad
          wrow_raised
          have e : PyData.tuple (cutD ((A ++ x :: y :: B).map rowD) none (some (A.length : Int))) = tbD A := by
            rw [cutD_to, ← List.map_take, List.take_left]; rfl
          rw [e]
          refine c_ldec hA hs fun fin => ?_
          cases hd : dec A s with
          | none =>
            rw [hd] at bad
            wrow_raised
            exact bad rfl _
          | some i =>
            rw [hd] at ok
            wrow_raised
            exact ok rfl
    intro hg j
    wrow_raised
    have : may A x y = true := by
      unfold may
      rw [Bool.or_eq_true, Bool.not_eq_true', Bool.eq_false_iff, ne_eq, List.any_eq_true]
      refine .inr fun ⟨s, hs, z⟩ => ?_
      have := hg s hs
      rw [z] at this
      cases this
    rw [this] at q
    exact q _
end

theorem t1 : A.okRun P0 sm i__law_draw 4 i__law_table [.o 0, .d (.int 12 12)] (tabT 0 12) [.v (.o 1000), .any] = true := by decide +kernel
theorem t2 : A.okRun P0 sm i__law_draw 4 i__law_near [.o 0, tabT 0 12] (tabT 0 45) [.v (.o 1000), .any] = true := by decide +kernel
/-- rows that may be drawn -/
def Tb (hi : Nat) (t : List Row) : Prop := A.has (.seq false rowT 0 hi) (tbD t)
theorem tabs {B hi : Nat} {t : OT} (h : A.γ (opq B) (tabT 0 hi) t) : ∃ rs, t = .leaf (tbD rs) ∧ TabOk hi rs ∧ A.γ (opq B) (tabT 0 hi) (.leaf (tbD rs)) := by
  obtain ⟨rs, rfl, h1, _⟩ := tab_dec h
  exact ⟨rs, rfl, h1, h⟩
section
variable {Q : OT → List (Option OT) → Prop}
theorem c_table {m : Nat} {p : OT} (hp : Pot m p) (hm : m ≤ 100000000000000000) (q : ∀ (t : List Row) (p' : OT) (fin : List (Option OT)), TabOk 12 t → A.has (.seq false rowT 0 12) (tbD t) → Pot (m + 1000) p' → Q (.leaf (tbD t)) (some p' :: fin)) : CallP (run P0 4 i__law_table) [p, iT 12] Q := by
  refine A.ai (sm_ok hm) _ _ _ t1 (.cons (show Pot (m + 0) p from hp) (.cons ⟨_, rfl, 12, rfl, by decide, by decide⟩ .nil)) fun t fin h1 h2 => ?_
  obtain ⟨rs, rfl, h3, h4⟩ := tabs h1
  obtain ⟨d, e, h4⟩ := h4
  cases e
  cases h2 with
  | cons a b =>
    obtain ⟨p', rfl, hp'⟩ := a
    exact q rs p' _ h3 h4 hp'
theorem c_near {m : Nat} {p : OT} {t : List Row} (hp : Pot m p) (hm : m ≤ 100000000000000000) (ht : A.has (.seq false rowT 0 12) (tbD t)) (q : ∀ (t : List Row) (p' : OT) (fin : List (Option OT)), TabOk 45 t → Pot (m + 1000) p' → Q (.leaf (tbD t)) (some p' :: fin)) : CallP (run P0 4 i__law_near) [p, .leaf (tbD t)] Q := by
  refine A.ai (sm_ok hm) _ _ _ t2 (.cons (show Pot (m + 0) p from hp) (.cons ⟨_, rfl, ht⟩ .nil)) fun t fin h1 h2 => ?_
  obtain ⟨rs, rfl, h3, h4⟩ := tabs h1
  cases h2 with
  | cons a b =>
    obtain ⟨p', rfl, hp'⟩ := a
    exact q rs p' _ h3 hp'
end
theorem math (ns : List Int) (h1 : ns.length ≤ 63) (h2 : ∀ z ∈ ns, PySem.Builtin.Int.intBits z ≤ 1048576) : ∃ fin, run P0 5 i_law [.leaf (.list (ns.map .int))] = some (.leaf (.bool true), fin) := by
  have q : CallP (run P0 5 i_law) [.leaf (.list (ns.map .int))] fun t fin => t = .leaf (.bool true) := by
    refine call_def rfl rfl ?_
    wrow_raised
    refine c_pot h1 fun p fin hp => ?_
    obtain ⟨cs, a, b, e, hp'⟩ := hp
    subst e
    have hp : Pot 0 _ := ⟨cs, a, b, rfl, hp'⟩
    wrow_raised
    refine for_rule (List.range 2) (fun (j : Nat) => .int (0 + j)) [1, 10] (fun pre _ => fun | [y, z] => (∃ m p, y = some p ∧ Pot m p ∧ m ≤ pre.length * 10000) ∧ (z = none ∨ ∃ d, z = some (.leaf d)) | _ => False) rfl rfl rfl ⟨⟨0, _, rfl, hp, Nat.zero_le _⟩, .inl rfl⟩ ?_ ?_
    · rintro pre x r hx _ z ⟨⟨m, p, rfl, hp, hm⟩, hz⟩ j
      have hlt : pre.length < 2 := by have := congrArg List.length hx; simp at this; omega
      have nd : ∀ {m : Nat} {p : OT}, Pot m p → ∃ g ts, p = .nod g ts := fun h => by
        obtain ⟨cs, a, b, rfl, _⟩ := h; exact ⟨_, _, rfl⟩
      obtain ⟨g, ts, rfl⟩ := nd hp
      wrow_raised
      refine c_table hp (by omega) fun t p fin ht hty hp => ?_
      obtain ⟨g, ts, rfl⟩ := nd hp
      have pT := pl_tab ht (by decide)
      have hC := core_ok ht
      have pC := pl_tab hC (by decide)
      wrow_raised
      refine c_lsorts4 fun fin => ?_
      wrow_raised
      refine comp_map allS sD (fun s => optD (dec t s)) (sz64 (by decide)) rfl (by simp) (gv_fix rfl) (fun s hs => ?_) ?_
      · wrow_raised
        refine c_ldec ht (allS_len s hs) fun fin => ?_
        wrow_close
      rw [show allS.map (fun s => optD (dec t s)) = (allS.map (dec t)).map optD by rw [List.map_map]; rfl]
      wrow_raised
      refine comp_sel t.zipIdx (fun p => .tuple [.int p.2, rowD p.1]) (fun p => decide (some p.2 ∈ allS.map (dec t)) = true) (fun p => rowD p.1) (by rw [List.length_zipIdx]; exact sz64 (Nat.le_trans ht.1 (by decide))) (by rcases hz with rfl | ⟨d, rfl⟩ <;> rfl) (by simp) (gv_fix enumD_map) (fun p hp => ?_) ?_
      · wrow_raised
        refine InP.optD ?_
        by_cases c : some p.2 ∈ allS.map (dec t)
        · rw [decide_eq_true c]
          wrow_raised
          exact ⟨_, rfl, if_pos rfl⟩
        · rw [decide_eq_false c]
          wrow_raised
          exact if_neg Bool.false_ne_true
      rw [show (t.zipIdx.filter fun p => decide (decide (some p.2 ∈ allS.map (dec t)) = true)).map (fun p => rowD p.1) = (core t).map rowD by
        rw [← core_eq, List.map_map]
        congr 1
        congr 1
        funext p
        simp]
      wrow_raised
      refine c_core ht (by decide) fun fin => ?_
      wrow_raised
      refine c_core ht (by decide) fun fin => ?_
      wrow_raised
      refine c_core hC (by decide) fun fin => ?_
      rw [show core (core t) = core t from core_core t allS]
      wrow_raised
      refine c_unl ht hC fun fin => ?_
      rw [core_unl]
      wrow_raised
      refine for_rule (List.range 2) (fun (j : Nat) => .int (0 + j)) [1] (fun pre' _ => fun | [y] => ∃ m p, y = some p ∧ Pot m p ∧ m ≤ pre.length * 10000 + 1000 + pre'.length * 1000 | _ => False) rfl rfl rfl ⟨_, _, rfl, hp, by simp; omega⟩ ?_ ?_
      · rintro pre' x' r' hx' _ ⟨m', p', rfl, hp, hm'⟩ j'
        have hlt' : pre'.length < 2 := by have := congrArg List.length hx'; simp at this; omega
        obtain ⟨g, ts, rfl⟩ := nd hp
        wrow_raised
        refine c_near hp (by omega) hty fun o p fin ho hp => ?_
        obtain ⟨g, ts, rfl⟩ := nd hp
        have pU := unl_pl t o
        wrow_raised
        refine c_lunl ht ho fun fin => ?_
        wrow_raised
        refine c_unl ht ho fun fin => ?_
        wrow_raised
        refine c_unl ht ho fun fin => ?_
        wrow_raised
        refine c_unl ho ht fun fin => ?_
        rw [unl_symm t o]
        wrow_raised
        exact ⟨_, _, rfl, hp, by rw [List.length_append, List.length_singleton]; omega⟩
      rintro _ ⟨m', p', rfl, hp, hm'⟩ j'
      rw [List.length_range] at hm'
      obtain ⟨g, ts, rfl⟩ := nd hp
      wrow_raised
      w_left
      · rename_i hlen
        have hlen : (1 : Int) < t.length := hlen
        wrow_raised
        refine c_draw hp (by omega) (by omega) (by have := ht.1; omega) fun r p fin r0 r1 hp => ?_
        obtain ⟨g, ts, rfl⟩ := nd hp
        obtain ⟨A, x, y, B, rfl, hA⟩ := split_two (t := t) (k := r.toNat) (by omega)
        have hr : r = (A.length : Int) := by omega
        subst hr
        have ix : ∀ {K : D → Prop}, K (rowD x) → IxD ((A ++ x :: y :: B).map rowD) A.length K := fun h => IxD.nat A.length _ rfl (by simp) h
        have iy : ∀ {K : D → Prop}, K (rowD y) → IxD ((A ++ x :: y :: B).map rowD) (A.length + 1) K := fun h => IxD.nat (A.length + 1) _ rfl (by simp) h
        wrow_raised
        refine iy ?_
        wrow_raised
        refine ix ?_
        have hT := ht.1
        rw [List.length_append, List.length_cons, List.length_cons] at hT
        have e1 : cutD ((A ++ x :: y :: B).map rowD) none (some (A.length : Int)) = A.map rowD := by rw [cutD_to, ← List.map_take, List.take_left]
        have e2 : cutD ((A ++ x :: y :: B).map rowD) (some ((A.length : Int) + 2)) none = B.map rowD := by
          rw [show ((A.length : Int) + 2) = ((A.length + 2 : Nat) : Int) by omega, cutD_from, ← List.map_drop]
          congr 1
          simp
        have e3 : A.map rowD ++ [rowD y, rowD x] ++ B.map rowD = (A ++ y :: x :: B).map rowD := by simp
        have ho : TabOk 12 (A ++ y :: x :: B) := ⟨by rw [List.length_append, List.length_cons, List.length_cons]; omega, fun r hr => ht.2 r (by simp at hr ⊢; rcases hr with h | h | h | h <;> simp [h])⟩
        conv => whnf
        rw [e1]
        refine Sd.mk (by rw [sizeLine_eq, List.length_map]; simp; omega) ?_
        conv => whnf
        rw [e2]
        refine Sd.mk (by rw [sizeLine_eq, List.length_map, List.length_append, List.length_map]; simp; omega) ?_
        rw [e3]
        wrow_raised
        refine c_unl ht ho fun fin => ?_
        wrow_raised
        refine c_may ht fun fin => ?_
        conv => whnf
        show EqP (.bool (isNone (optS (unl (A ++ x :: y :: B) (A ++ y :: x :: B))))) (.bool (may A x y)) _
        rw [unl_swap]
        refine EqP.self Pl.bool (by decide) ?_
        wrow_raised
        exact ⟨⟨_, _, rfl, hp, by rw [List.length_append, List.length_singleton]; omega⟩, .inr ⟨_, rfl⟩⟩
      · wrow_raised
        exact ⟨⟨_, _, rfl, hp, by rw [List.length_append, List.length_singleton]; omega⟩, hz⟩
    · rintro _ z ⟨⟨m, p, rfl, hp, hm⟩, hz⟩ j
      obtain ⟨cs, a, b, rfl, _⟩ := hp
      wrow_raised
  obtain ⟨t, fin, h, _, rfl⟩ := q
  exact ⟨fin, h⟩

end PyI.K15
open PySem PySem.W PyProof.Rows
set_option maxHeartbeats 0 in
theorem PySem.Challenge.cw_deskhours_k15_whole_main_tables_alike_holds : PySem.Challenge.rw_deskhours_k15_whole_main_tables_alike.Holds := by
  w_on; o_law; k_head; (case hw => w_witness2)
  k_fill
  refine PyI.walk_run (l := PySem.Challenge.rw_deskhours_k15_whole_main_tables_alike) (n := 63) (k := 5) (f := 19) (x := "script") (P0 := PyI.K15.P0) rfl (by decide) rfl ⟨rfl, by decide, by decide⟩ (fun w h Y => PySem.W.kIn_of Y) ?F (fun ns h1 h2 => PyI.K15.math ns h1 h2)
  case F =>
    intro w mg fa h KX G hmg
    refine' PyI.K15.all_mk KX G hmg ?a0 ?l0 ?c0 ?k0 ?a1 ?l1 ?c1 ?k1 ?a2 ?l2 ?c2 ?k2 ?a3 ?l3 ?c3 ?k3 ?a4 ?l4 ?c4 ?k4 ?a5 ?l5 ?c5 ?k5 ?a6 ?l6 ?c6 ?k6 ?a7 ?l7 ?c7 ?k7 ?a8 ?l8 ?c8 ?k8 ?a9 ?l9 ?c9 ?k9 ?a10 ?l10 ?c10 ?k10 ?a11 ?l11 ?c11 ?k11 ?a12 ?l12 ?c12 ?k12 ?a13 ?l13 ?c13 ?k13 ?a14 ?l14 ?c14 ?k14 ?a15 ?l15 ?c15 ?k15 ?a16 ?l16 ?c16 ?k16 ?a17 ?l17 ?c17 ?k17 ?a18 ?l18 ?c18 ?k18 ?a19 ?l19 ?c19 ?k19 ?gg0 ?z0 ?z1 ?z2 ?z3 ?z4 ?z5 ?z6 ?z7 ?z8 ?z9 ?z10 ?z11 ?z12 ?z13 ?z14 ?z15 ?z16 ?z17 ?z18 ?z19
    (case a0 => k_is); (case l0 => k_is); (case c0 => k_is); (case k0 => k_is); (case a1 => k_is); (case l1 => k_is); (case c1 => k_is); (case k1 => k_is); (case a2 => k_is); (case l2 => k_is); (case c2 => k_is); (case k2 => k_is); (case a3 => k_is); (case l3 => k_is); (case c3 => k_is); (case k3 => k_is); (case a4 => k_is); (case l4 => k_is); (case c4 => k_is); (case k4 => k_is); (case a5 => k_is); (case l5 => k_is); (case c5 => k_is); (case k5 => k_is); (case a6 => k_is); (case l6 => k_is); (case c6 => k_is); (case k6 => k_is); (case a7 => k_is); (case l7 => k_is); (case c7 => k_is); (case k7 => k_is); (case a8 => k_is); (case l8 => k_is); (case c8 => k_is); (case k8 => k_is); (case a9 => k_is); (case l9 => k_is); (case c9 => k_is); (case k9 => k_is); (case a10 => k_is); (case l10 => k_is); (case c10 => k_is); (case k10 => k_is); (case a11 => k_is); (case l11 => k_is); (case c11 => k_is); (case k11 => k_is); (case a12 => k_is); (case l12 => k_is); (case c12 => k_is); (case k12 => k_is); (case a13 => k_is); (case l13 => k_is); (case c13 => k_is); (case k13 => k_is); (case a14 => k_is); (case l14 => k_is); (case c14 => k_is); (case k14 => k_is); (case a15 => k_is); (case l15 => k_is); (case c15 => k_is); (case k15 => k_is); (case a16 => k_is); (case l16 => k_is); (case c16 => k_is); (case k16 => k_is); (case a17 => k_is); (case l17 => k_is); (case c17 => k_is); (case k17 => k_is); (case a18 => k_is); (case l18 => k_is); (case c18 => k_is); (case k18 => k_is); (case a19 => k_is); (case l19 => k_is); (case c19 => k_is); (case k19 => k_is); (case gg0 => k_is); (case z0 => k_is); (case z1 => k_is); (case z2 => k_is); (case z3 => k_is); (case z4 => k_is); (case z5 => k_is); (case z6 => k_is); (case z7 => k_is); (case z8 => k_is); (case z9 => k_is); (case z10 => k_is); (case z11 => k_is); (case z12 => k_is); (case z13 => k_is); (case z14 => k_is); (case z15 => k_is); (case z16 => k_is); (case z17 => k_is); (case z18 => k_is); (case z19 => k_is)
