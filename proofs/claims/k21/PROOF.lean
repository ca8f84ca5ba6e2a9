import PyProof.Rows.All
import Wide.All
import OpenK.AllK
import Wide.FinOn
import HandS.ForMost
import HandS.HeadEnd
import HandS.TupAny
import HandS.TupMul
import HandS.Zip
import HandS.Style
import HandS.Conv
import HandS.Deep
import HandS.IsInst
import PyProof.SeqIndex
import HandS.Small
import HandS.Codes
import OpenK.KMore
import KE.GoesEnum
import HandS.Comp
import HandS.NoneIn
import HandS.HeadHook4
import HandS.Head2
import HandS.Head0
import HandS.Head1
import Lean
import PySem.Challenge.RW_bentplane_k21_steps_seen_by_changes_of_l
set_option Elab.async false
set_option linter.all false
set_option maxRecDepth 100000
/-! EV1: the small language, its data, its evaluator (own work). -/
namespace EV
open PySem PySem.Spec PyProof.Rows L2

/-- data: trees; an object is told by its address as a dict with the key None -/
abbrev D := PyData
/-- what a local owns and may change in place -/
inductive O where
  | imm (d : D) | lst (xs : List O) | dct (kvs : List (Key × O))
inductive Sl where
  | val (d : D) | own (o : O)
abbrev Ev := List (Option Sl)
/-- an expression's value: stable data; a new object; a place that is looked at -/
inductive RV where
  | val (d : D) | own (o : O) | brw (o : O)

inductive BOp where | add | sub | mul | fdiv | mod | pow | shl | shr | band | bor | bxor
  deriving DecidableEq
inductive COp where | eq | ne | lt | le | gt | ge | isn | isnn | isin | notin
  deriving DecidableEq
inductive Blt where | len | int | tuple | list | max | min | abs | sum | any | all | sorted | repr | str | range | enumerate | zip | dict | bool
  deriving DecidableEq
inductive Mth where | index | get | count | items | values | keys | append | extend | pop
  deriving DecidableEq
inductive Ty where | int | bool | str | list | tuple | dict
  deriving DecidableEq
/-- a written constant -/
inductive Cn where | non | bl (b : Bool) | int (i : Int) | str (x : Str)
  deriving DecidableEq
mutual
inductive CE where
  | var (i : Nat) | mv (i : Nat) | con (c : Cn) | glo (x : Str)
  | bin (op : BOp) (a b : CE) | neg (a : CE) | not (a : CE)
  | cmp (op : COp) (a b : CE) | chn (op op' : COp) (a b c : CE)
  | and (a b : CE) | or (a b : CE) | ite (c a b : CE)
  | tup (es : CL) | lst (es : CL) | dct (ps : CP)
  | rng (tup : Bool) (es : CL)
  | idx (a k : CE) | slc (a : CE) (lo hi : CO) | rev (a : CE)
  | call (f : Str) (es : CL) (kws : List Str) | lend (i : Nat)
  | blt (b : Blt) (es : CL) | mth (m : Mth) (o : CE) (es : CL)
  | mut (m : Mth) (i : Nat) (path : CL) (es : CL)
  | isi (a : CE) (ts : List Ty)
  | lc (t : CT) (it : CI) (cond : CE) (elt : CE) (vs : List Nat)
inductive CL where
  | nil | cons (e : CE) (es : CL)
inductive CP where
  | nil | cons (k v : CE) (ps : CP)
inductive CO where
  | non | som (e : CE)
/-- what is walked: range, enumerate, zip of values; a value -/
inductive CI where
  | blt (b : Blt) (es : CL) | of (e : CE)
inductive CT where
  | nm (i : Nat) | tup (ts : CTs)
inductive CTs where
  | nil | cons (t : CT) (ts : CTs)
end
mutual
inductive CS where
  | asg (t : CT) (e : CE) | asgO (i : Nat) (e : CE) | par (own : List (Nat × Bool)) (es : CL)
  | put (i : Nat) (path : CL) (k e : CE) | aug (i : Nat) (op : BOp) (e : CE)
  | exp (e : CE) | ret (e : CE) | retO (i : Nat)
  | ifs (c : CE) (a b : CB) | whl (c : CE) (b : CB) | fo (t : CT) (it : CI) (b : CB)
  | brk | cnt | pas | nev
inductive CB where
  | nil | cons (s : CS) (b : CB)
end

/-! ### data -/
def kD : Key → D
  | .inl i => .int i
  | .inr x => .str x
def dK : D → Option Key
  | .int i => some (.inl i)
  | .str x => some (.inr x)
  | _ => none
mutual
def fz : O → D
  | .imm d => d
  | .lst os => .list (fzs os)
  | .dct kos => .dict (fzk kos)
def fzs : List O → List D
  | [] => []
  | o :: os => fz o :: fzs os
def fzk : List (Key × O) → List (D × D)
  | [] => []
  | (k, o) :: r => (kD k, fz o) :: fzk r
end
def immL : List O → Option (List D)
  | [] => some []
  | .imm d :: r => (immL r).map (d :: ·)
  | _ => none
def immK : List (Key × O) → Option (List (D × D))
  | [] => some []
  | (k, .imm d) :: r => (immK r).map ((kD k, d) :: ·)
  | _ => none
def ofL (ds : List D) : O := .lst (ds.map .imm)

/-- the value as it may be looked at now -/
def RV.view : RV → D
  | .val d => d
  | .own o => fz o
  | .brw o => fz o
/-- as data whose parts stay -/
def RV.parts : RV → Option D
  | .val d => some d
  | .own o => some (fz o)
  | .brw (.imm d) => some d
  | .brw (.lst os) => (immL os).map .list
  | .brw (.dct kos) => (immK kos).map .dict
/-- as data that stays -/
def RV.keep : RV → Option D
  | .val d => some d
  | .own o => some (fz o)
  | .brw _ => none
def RV.toO : RV → Option O
  | .val d => some (.imm d)
  | .own o => some o
  | .brw _ => none
def RV.isBrw : RV → Bool
  | .brw _ => true
  | _ => false

def scalK : D → Bool
  | .none => true
  | .bool _ => true
  | .int _ => true
  | .str _ => true
  | _ => false
def isDct : List (D × D) → Bool
  | (.none, _) :: _ => false
  | _ => true
def truthD : D → Option Bool
  | .none => some false
  | .bool b => some b
  | .int i => some (i != 0)
  | .str x => if x.length ≤ sizeLine then some ((x.length : Int) != 0) else none
  | .list xs => some (!xs.isEmpty)
  | .tuple xs => some (!xs.isEmpty)
  | .dict kvs => if isDct kvs then some (!kvs.isEmpty) else none
def lenD : D → Option Int
  | .str x => if x.length ≤ sizeLine then some x.length else none
  | .list xs => some xs.length
  | .tuple xs => some xs.length
  | .dict kvs => if isDct kvs then some kvs.length else none
  | _ => none

def mulOk (i j : Int) : Bool := decide (i.natAbs < 2 ^ 64) || decide (j.natAbs < 2 ^ 64)
def rep (n : Nat) (xs : List D) : List D := (List.replicate n xs).flatten
def binR (op : BOp) (x y : D) : Option RV :=
  match op, x, y with
  | .add, .int i, .int j => some (.val (.int (i + j)))
  | .add, .str a, .str b => if a.length + b.length ≤ sizeLine then some (.val (.str (a ++ b))) else none
  | .add, .tuple xs, .tuple ys => if xs.length + ys.length ≤ sizeLine then some (.val (.tuple (xs ++ ys))) else none
  | .add, .list xs, .list ys => if xs.length + ys.length ≤ sizeLine then some (.own (ofL (xs ++ ys))) else none
  | .sub, .int i, .int j => some (.val (.int (i - j)))
  | .mul, .int i, .int j => if mulOk i j then some (.val (.int (i * j))) else none
  | .mul, .list xs, .int k => if -(2 ^ 63) ≤ k ∧ k < 2 ^ 63 ∧ xs.length * k.toNat ≤ sizeLine then some (.own (ofL (rep k.toNat xs))) else none
  | .mul, .tuple xs, .int k => if -(2 ^ 63) ≤ k ∧ k ≤ 1000 ∧ xs.length ≤ 1000 ∧ xs ≠ [] then some (.val (.tuple (rep k.toNat xs))) else none
  | .fdiv, .int i, .int j => if 0 < j ∧ j < 1073741824 then some (.val (.int (i / j))) else none
  | .mod, .int i, .int j => if 0 < j then some (.val (.int (i % j))) else none
  | .pow, .int i, .int j => if 0 ≤ j ∧ j ≤ 1000000 ∧ i.natAbs < 2 ^ 64 then some (.val (.int (i ^ j.toNat))) else none
  | .shl, .int i, .int j => if 0 ≤ j ∧ j ≤ 1000000 ∧ i.natAbs < 2 ^ 64 then some (.val (.int (i * 2 ^ j.toNat))) else none
  | .shr, .int i, .int j => if 0 ≤ j then some (.val (.int (i / 2 ^ j.toNat))) else none
  | .band, .int i, .int j => some (.val (.int (Builtin.bitAnd i j)))
  | .bor, .int i, .int j => some (.val (.int (Builtin.bitOr i j)))
  | .bxor, .int i, .int j => some (.val (.int (Builtin.bitXor i j)))
  | _, _, _ => none

def eqD (x y : D) : Option Bool := if SeqAt.shaped x && SeqAt.shaped y then some (PyData.eqv x y) else none
def findK : List (D × D) → Key → Option D
  | [], _ => none
  | (k, v) :: r, q => if dK k = some q then some v else findK r q
def hasK (kvs : List (D × D)) (q : Key) : Bool := (findK kvs q).isSome
/-- all keys are ints and texts -/
def plainKs : List (D × D) → Bool
  | [] => true
  | (k, _) :: r => (dK k).isSome && plainKs r
def inD (x y : D) : Option Bool :=
  match y with
  | .list ys => if SeqAt.shaped x && ys.all SeqAt.shaped then some (ys.any fun d => PyData.eqv d x) else none
  | .tuple ys => if SeqAt.shaped x && ys.all SeqAt.shaped then some (ys.any fun d => PyData.eqv d x) else none
  | .dict kvs => match dK x with
    | some q => if plainKs kvs then some (hasK kvs q) else none
    | none => none
  | _ => none
def cmpR (op : COp) (x y : D) : Option Bool :=
  match op with
  | .eq => eqD x y
  | .ne => (eqD x y).map (!·)
  | .lt => match x, y with
    | .int i, .int j => some (decide (i < j))
    | _, _ => none
  | .le => match x, y with
    | .int i, .int j => some (decide (i ≤ j))
    | _, _ => none
  | .gt => match x, y with
    | .int i, .int j => some (decide (j < i))
    | _, _ => none
  | .ge => match x, y with
    | .int i, .int j => some (decide (j ≤ i))
    | _, _ => none
  | .isn => match x, y with
    | .none, .none => some true
    | _, .none => some false
    | _, _ => none
  | .isnn => match x, y with
    | .none, .none => some false
    | _, .none => some true
    | _, _ => none
  | .isin => inD x y
  | .notin => (inD x y).map (!·)

/-- the part of a looked-at object -/
def O.at (o : O) (k : D) : Option O :=
  match o, k with
  | .lst os, .int i => atI os i
  | .dct kos, k => (dK k).bind fun q => (kos.find? fun p => decide (p.1 = q)).map (·.2)
  | _, _ => none
def idxD (x k : D) : Option D :=
  match x, k with
  | .list xs, .int i => atI xs i
  | .tuple xs, .int i => atI xs i
  | .dict kvs, k => if plainKs kvs then (dK k).bind (findK kvs) else none
  | _, _ => none
def ofO : O → RV
  | .imm d => .val d
  | o => .brw o
def idxR (r : RV) (k : D) : Option RV :=
  match r with
  | .val d => (idxD d k).map .val
  | .own o => (idxD (fz o) k).map .val
  | .brw o => (o.at k).map ofO
def cut (xs : List D) (lo hi : Option Int) : List D := (xs.drop (HT.sIx xs.length 0 lo)).take (HT.sIx xs.length xs.length hi - HT.sIx xs.length 0 lo)
def slcR (x : D) (lo hi : Option Int) : Option RV :=
  match x with
  | .list xs => some (.own (ofL (cut xs lo hi)))
  | .tuple xs => some (.val (.tuple (cut xs lo hi)))
  | _ => none
def revR (x : D) : Option RV :=
  match x with
  | .list xs => some (.own (ofL xs.reverse))
  | .tuple xs => some (.val (.tuple xs.reverse))
  | _ => none
def rngL (lo hi : Int) : List D := (List.range (hi - lo).toNat).map fun i => .int (lo + (i : Nat))
def isInts : List D → Option (List Int)
  | [] => some []
  | .int i :: r => (isInts r).map (i :: ·)
  | _ => none
def isBls : List D → Option (List Bool)
  | [] => some []
  | .bool i :: r => (isBls r).map (i :: ·)
  | _ => none
def maxI (i : Int) (l : List Int) : Int := l.foldl (fun a b => if b > a then b else a) i
def minI (i : Int) (l : List Int) : Int := l.foldl (fun a b => if b < a then b else a) i
def rngOk (a b : Int) : Bool := decide (-(2 ^ 62) ≤ a ∧ a < 2 ^ 62 ∧ -(2 ^ 62) ≤ b ∧ b < 2 ^ 62 ∧ (b - a).toNat ≤ 2 ^ 24)
/-- a built-in at data (looked at; whole: its parts stay) -/
def bltR (b : Blt) (xs : List D) : Option RV :=
  match b, xs with
  | .len, [x] => (lenD x).map fun n => .val (.int n)
  | .int, [.int i] => some (.val (.int i))
  | .int, [.bool k] => some (.val (.int (if k then 1 else 0)))
  | .bool, [.bool k] => some (.val (.bool k))
  | .bool, [.int i] => some (.val (.bool (i != 0)))
  | .abs, [.int i] => some (.val (.int (if i < 0 then -i else i)))
  | .max, [.int i, .int j] => some (.val (.int (if j > i then j else i)))
  | .min, [.int i, .int j] => some (.val (.int (if j < i then j else i)))
  | .max, [.list ds] => match isInts ds with
    | some (i :: r) => some (.val (.int (maxI i r)))
    | _ => none
  | .min, [.list ds] => match isInts ds with
    | some (i :: r) => some (.val (.int (minI i r)))
    | _ => none
  | .sum, [.list ds] => (isInts ds).map fun l => .val (.int l.sum)
  | .any, [.list ds] => (isBls ds).map fun l => .val (.bool (l.any id))
  | .all, [.list ds] => (isBls ds).map fun l => .val (.bool (l.all id))
  | .tuple, [.list ds] => some (.val (.tuple ds))
  | .tuple, [.tuple ds] => some (.val (.tuple ds))
  | .list, [.list ds] => some (.own (ofL ds))
  | .list, [.tuple ds] => some (.own (ofL ds))
  | .repr, [x] => if x.showable && !x.hasDict && decide (x.depth < 64) && decide (x.shown.length ≤ sizeLine) then some (.val (.str x.shown)) else none
  | _, _ => none
/-- which built-ins hand on the parts -/
def Blt.hands : Blt → Bool
  | .tuple => true
  | .list => true
  | _ => false
def indexOf (xs : List D) (x : D) : Option Int :=
  let bs := xs.map fun d => PyData.eqv d x
  if SeqAt.shaped x && xs.all SeqAt.shaped && bs.contains true then some (bs.idxOf true : Nat) else none
def mthR (m : Mth) (o : D) (xs : List D) : Option RV :=
  match m, o, xs with
  | .index, .list ds, [x] => (indexOf ds x).map fun n => .val (.int n)
  | .index, .tuple ds, [x] => (indexOf ds x).map fun n => .val (.int n)
  | .get, .dict kvs, [k] => match dK k with
    | some q => if plainKs kvs then some (.val ((findK kvs q).getD .none)) else none
    | none => none
  | .get, .dict kvs, [k, d] => match dK k with
    | some q => if plainKs kvs then some (.val ((findK kvs q).getD d)) else none
    | none => none
  | _, _, _ => none
def isiD (x : D) (t : Ty) : Option Bool :=
  match x with
  | .none => some false
  | .bool _ => some (t == .int || t == .bool)
  | .int _ => some (t == .int)
  | .str _ => some (t == .str)
  | .list _ => some (t == .list)
  | .tuple _ => some (t == .tuple)
  | .dict kvs => if isDct kvs then some (t == .dict) else none
def isiAny (x : D) : List Ty → Option Bool
  | [] => some false
  | t :: ts => match isiD x t with
    | some true => some true
    | some false => isiAny x ts
    | none => none

/-! ### places -/
def putO (kos : List (Key × O)) (q : Key) (v : O) : List (Key × O) :=
  if kos.any (fun p => decide (p.1 = q)) then kos.map (fun p => if p.1 = q then (p.1, v) else p) else kos ++ [(q, v)]
def atP (o : O) : List D → Option O
  | [] => some o
  | k :: ks => (o.at k).bind fun o' => atP o' ks
def setAt (o : O) (k : D) (v : O) : Option O :=
  match o, k with
  | .lst os, .int i => (ixN os.length i).map fun j => .lst (os.set j v)
  | .dct kos, k => (dK k).bind fun q => if kos.length < sizeLine then some (.dct (putO kos q v)) else none
  | _, _ => none
def putP (o : O) : List D → O → Option O
  | [], v => some v
  | k :: ks, v => (o.at k).bind fun o' => (putP o' ks v).bind fun o2 => setAt o k o2
/-- a method that changes the object: what it gives, the object behind it -/
def mutR (m : Mth) (o : O) (xs : List RV) : Option (RV × O) :=
  match m, o, xs with
  | .append, .lst os, [.val d] => if os.length < sizeLine then some (.val .none, .lst (os ++ [.imm d])) else none
  | .append, .lst os, [.own p] => if os.length < sizeLine then some (.val .none, .lst (os ++ [p])) else none
  | .extend, .lst os, [r] => match r.parts with
    | some (.list ds) => if os.length + ds.length ≤ sizeLine then some (.val .none, .lst (os ++ ds.map .imm)) else none
    | _ => none
  | .pop, .lst os, [] => match os.getLast? with
    | some (.imm d) => some (.val d, .lst os.dropLast)
    | _ => none
  | _, _, _ => none

/-- what may not be touched while a list is read -/
def brwOk (rs : List RV) (p : Bool) : Bool := !rs.any RV.isBrw || p
def isL : Option O → Bool
  | some (.lst _) => true
  | _ => false
/-- the object behind the keys ks of slot i -/
def placeAt (env : Ev) (i : Nat) (ks : List D) : Option O := match env[i]? with
  | some (some (.own o)) => atP o ks
  | _ => none

/-- the slots of a target -/
def tgtIx : CT → List Nat
  | .nm i => [i]
  | .tup ts => tgtsIx ts
where tgtsIx : CTs → List Nat
  | .nil => []
  | .cons t ts => tgtIx t ++ tgtsIx ts

/-! ### the evaluator -/
mutual
/-- no local's object is changed, lent or handed over -/
def pureE : CE → Bool
  | .var _ | .con _ | .glo _ => true
  | .mv _ | .lend _ | .mut _ _ _ _ => false
  | .bin _ a b | .cmp _ a b | .and a b | .or a b | .idx a b => pureE a && pureE b
  | .neg a | .not a | .rev a | .isi a _ => pureE a
  | .chn _ _ a b c | .ite c a b => pureE a && pureE b && pureE c
  | .slc a lo hi => pureE a && pureO lo && pureO hi
  | .tup es | .lst es | .blt _ es | .call _ es _ | .rng _ es => pureL es
  | .dct ps => pureP ps
  | .mth _ o es => pureE o && pureL es
  | .lc t it cond elt vs => pureI it && pureE cond && pureE elt && (tgtIx t).all vs.contains
def pureL : CL → Bool
  | .nil => true
  | .cons e es => pureE e && pureL es
def pureP : CP → Bool
  | .nil => true
  | .cons k v ps => pureE k && pureE v && pureP ps
def pureO : CO → Bool
  | .non => true
  | .som e => pureE e
def pureI : CI → Bool
  | .blt _ es => pureL es
  | .of e => pureE e
end
def Cn.d : Cn → D
  | .non => .none
  | .bl b => .bool b
  | .int i => .int i
  | .str x => .str x
def keeps : List RV → Option (List D)
  | [] => some []
  | r :: rs => r.keep.bind fun d => (keeps rs).map (d :: ·)
def partsL : List RV → Option (List D)
  | [] => some []
  | r :: rs => r.parts.bind fun d => (partsL rs).map (d :: ·)
/-- a call's argument -/
inductive Ag where
  | val (d : D) | lend (i : Nat)
def wipeE (env : Ev) : List Nat → Ev
  | [] => env
  | v :: vs => (wipeE env vs).set v none
/-- the slots vs as they were -/
def backE (env old : Ev) : List Nat → Ev
  | [] => env
  | v :: vs => (backE env old vs).set v (old.getD v none)
mutual
def setT : CT → D → Ev → Option Ev
  | .nm i, d, env => some (env.set i (some (.val d)))
  | .tup ts, .tuple ds, env => setTs ts ds env
  | .tup ts, .list ds, env => setTs ts ds env
  | .tup _, _, _ => none
def setTs : CTs → List D → Ev → Option Ev
  | .nil, [], env => some env
  | .cons t ts, d :: ds, env => (setT t d env).bind fun e => setTs ts ds e
  | _, _, _ => none
end
def itemsOf : D → Option (List D)
  | .list xs => some xs
  | .tuple xs => some xs
  | _ => none
def enumL : Nat → List D → List D
  | _, [] => []
  | n, d :: ds => .tuple [.int n, d] :: enumL (n + 1) ds
def zipL : List D → List D → List D
  | a :: as, b :: bs => .tuple [a, b] :: zipL as bs
  | _, _ => []
/-- what a for walks -/
def iterB (b : Blt) (xs : List D) : Option (List D) :=
  match b, xs with
  | .range, [.int n] => if rngOk 0 n then some (rngL 0 n) else none
  | .range, [.int a, .int n] => if rngOk a n then some (rngL a n) else none
  | .enumerate, [.list l] => some (enumL 0 l)
  | .enumerate, [.tuple l] => some (enumL 0 l)
  | .zip, [.list l, .list m] => some (zipL l m)
  | .zip, [.tuple l, .tuple m] => some (zipL l m)
  | _, _ => none
/-- one turn after another of a comprehension; f: the turn -/
def lcL (f : D → Ev → Option (Option D × Ev)) : List D → Ev → Option (List D × Ev)
  | [], env => some ([], env)
  | x :: xs, env => match f x env with
    | some (some d, e1) => (lcL f xs e1).map fun p => (d :: p.1, p.2)
    | some (none, e1) => lcL f xs e1
    | none => none
structure Cfg where
  /-- a call: the value, the lent objects behind it -/
  call : Str → List Str → List Sl → Option (RV × List Sl)
  /-- a constant of the module -/
  glob : Str → Option D
  /-- the most turns of a while -/
  wf : Nat
def lent : Ev → List Ag → Option (List Sl × Ev)
  | env, [] => some ([], env)
  | env, .val d :: r => (lent env r).map fun p => (.val d :: p.1, p.2)
  | env, .lend i :: r => match env[i]? with
    | some (some (.own o)) => (lent (env.set i none) r).map fun p => (.own o :: p.1, p.2)
    | _ => none
def backL (env : Ev) : List Ag → List Sl → Option Ev
  | [], [] => some env
  | .val _ :: r, _ :: s => backL env r s
  | .lend i :: r, .own o :: s => backL (env.set i (some (.own o))) r s
  | _, _ => none
/-- none of the slots vs bears an object of its own -/
def plainAt (env : Ev) (vs : List Nat) : Bool := vs.all fun v => match env[v]? with
  | some (some (.own _)) => false
  | some _ => true
  | none => false
mutual
def ev (C : Cfg) : CE → Ev → Option (RV × Ev)
  | .var i, env => match env[i]? with
    | some (some (.val d)) => some (.val d, env)
    | some (some (.own o)) => some (.brw o, env)
    | _ => none
  | .mv i, env => match env[i]? with
    | some (some (.val d)) => some (.val d, env)
    | some (some (.own o)) => some (.val (fz o), env.set i (some (.val (fz o))))
    | _ => none
  | .con c, env => some (.val c.d, env)
  | .glo x, env => (C.glob x).map fun d => (.val d, env)
  | .lend _, _ => none
  | .bin op a b, env => match ev C a env with
    | none => none
    | some (ra, e1) => match ev C b e1 with
      | none => none
      | some (rb, e2) => if ra.isBrw && !pureE b then none else match ra.parts, rb.parts with
        | some x, some y => (binR op x y).map fun r => (r, e2)
        | _, _ => none
  | .neg a, env => match ev C a env with
    | some (.val (.int i), e1) => some (.val (.int (-i)), e1)
    | _ => none
  | .not a, env => match ev C a env with
    | none => none
    | some (ra, e1) => (truthD ra.view).map fun b => (.val (.bool (!b)), e1)
  | .cmp op a b, env => match ev C a env with
    | none => none
    | some (ra, e1) => match ev C b e1 with
      | none => none
      | some (rb, e2) => if ra.isBrw && !pureE b then none else (cmpR op ra.view rb.view).map fun r => (.val (.bool r), e2)
  | .chn op op' a b c, env => match ev C a env with
    | none => none
    | some (ra, e1) => match ev C b e1 with
      | none => none
      | some (rb, e2) => if ra.isBrw || rb.isBrw then none else match cmpR op ra.view rb.view with
        | none => none
        | some false => some (.val (.bool false), e2)
        | some true => match ev C c e2 with
          | none => none
          | some (rc, e3) => (cmpR op' rb.view rc.view).map fun r => (.val (.bool r), e3)
  | .and a b, env => match ev C a env with
    | none => none
    | some (ra, e1) => match truthD ra.view with
      | none => none
      | some true => ev C b e1
      | some false => some (ra, e1)
  | .or a b, env => match ev C a env with
    | none => none
    | some (ra, e1) => match truthD ra.view with
      | none => none
      | some false => ev C b e1
      | some true => some (ra, e1)
  | .ite c a b, env => match ev C c env with
    | none => none
    | some (rc, e1) => match truthD rc.view with
      | none => none
      | some true => ev C a e1
      | some false => ev C b e1
  | .tup es, env => match evL C es env with
    | none => none
    | some (rs, e1) => (keeps rs).bind fun ds => if ds.length ≤ sizeLine then some (.val (.tuple ds), e1) else none
  | .lst es, env => match evL C es env with
    | none => none
    | some (rs, e1) => (keeps rs).bind fun ds => if ds.length ≤ sizeLine then some (.own (ofL ds), e1) else none
  | .dct ps, env => match evP C ps env with
    | none => none
    | some (kos, e1) => if kos.length ≤ 15 then some (.own (.dct (kos.foldl (fun acc p => putO acc p.1 p.2) [])), e1) else none
  | .rng t es, env => match evL C es env with
    | none => none
    | some (rs, e1) => (keeps rs).bind fun ds => (iterB .range ds).map fun xs => (if t then .val (.tuple xs) else .own (ofL xs), e1)
  | .idx a k, env => match ev C a env with
    | none => none
    | some (ra, e1) => match ev C k e1 with
      | none => none
      | some (rk, e2) => if ra.isBrw && !pureE k then none else match rk with
        | .val d => (idxR ra d).map fun r => (r, e2)
        | _ => none
  | .slc a lo hi, env => match ev C a env with
    | none => none
    | some (ra, e1) => match evO C lo e1 with
      | none => none
      | some (l, e2) => match evO C hi e2 with
        | none => none
        | some (h, e3) => if ra.isBrw && !(pureO lo && pureO hi) then none else (ra.parts.bind fun x => slcR x l h).map fun r => (r, e3)
  | .rev a, env => match ev C a env with
    | none => none
    | some (ra, e1) => (ra.parts.bind revR).map fun r => (r, e1)
  | .call f es kws, env => match evA C es env with
    | none => none
    | some (as, e1) => match lent e1 as with
      | none => none
      | some (ss, e2) => match C.call f kws ss with
        | none => none
        | some (r, outs) => if r.isBrw then none else (backL e2 as outs).map fun e3 => (r, e3)
  | .blt b es, env => match evL C es env with
    | none => none
    | some (rs, e1) => if rs.any RV.isBrw && !pureL es then none else
      (if b.hands then partsL rs else some (rs.map RV.view)).bind fun ds => (bltR b ds).map fun r => (r, e1)
  | .mth m o es, env => match ev C o env with
    | none => none
    | some (ro, e1) => match evL C es e1 with
      | none => none
      | some (rs, e2) => if ro.isBrw && !pureL es then none else
        ro.parts.bind fun x => (keeps rs).bind fun ds => (mthR m x ds).map fun r => (r, e2)
  | .mut m i path es, env => match evL C path env with
    | none => none
    | some (ps, e1) => (keeps ps).bind fun ks => if pureL path && (ps.isEmpty || pureL es) && isL (placeAt e1 i ks) then match evL C es e1 with
      | none => none
      | some (rs, e2) => if brwOk rs (pureL es) then match e2[i]? with
        | some (some (.own o)) => (atP o ks).bind fun o1 => (mutR m o1 rs).bind fun p => (putP o ks p.2).map fun o2 => (p.1, e2.set i (some (.own o2)))
        | _ => none
        else none
      else none
  | .isi a ts, env => match ev C a env with
    | none => none
    | some (ra, e1) => (isiAny ra.view ts).map fun b => (.val (.bool b), e1)
  | .lc t it cond elt vs, env => match evI C it env with
    | none => none
    | some (xs, e1) => if plainAt e1 vs then
      (lcL (fun x e => match setT t x (wipeE e vs) with
        | none => none
        | some ea => match ev C cond ea with
          | none => none
          | some (rc, eb) => match truthD rc.view with
            | none => none
            | some false => some (none, eb)
            | some true => match ev C elt eb with
              | none => none
              | some (r, ec) => r.keep.map fun d => (some d, ec)) xs e1).bind fun p =>
        if p.1.length ≤ sizeLine then some (.own (ofL p.1), backE p.2 e1 vs) else none
      else none
def evL (C : Cfg) : CL → Ev → Option (List RV × Ev)
  | .nil, env => some ([], env)
  | .cons e es, env => match ev C e env with
    | none => none
    | some (r, e1) => (evL C es e1).map fun p => (r :: p.1, p.2)
def evA (C : Cfg) : CL → Ev → Option (List Ag × Ev)
  | .nil, env => some ([], env)
  | .cons (.lend i) es, env => match env[i]? with
    | some (some _) => (evA C es env).map fun p => (.lend i :: p.1, p.2)
    | _ => none
  | .cons e es, env => match ev C e env with
    | none => none
    | some (r, e1) => r.keep.bind fun d => (evA C es e1).map fun p => (.val d :: p.1, p.2)
/-- the pairs of a dict's display: plain keys, new or staying values -/
def evP (C : Cfg) : CP → Ev → Option (List (Key × O) × Ev)
  | .nil, env => some ([], env)
  | .cons k v ps, env => match ev C k env with
    | none => none
    | some (rk, e1) => match ev C v e1 with
      | none => none
      | some (rv, e2) => (rk.keep.bind dK).bind fun q => rv.toO.bind fun o => (evP C ps e2).map fun p => ((q, o) :: p.1, p.2)
/-- an optional int -/
def evO (C : Cfg) : CO → Ev → Option (Option Int × Ev)
  | .non, env => some (none, env)
  | .som e, env => match ev C e env with
    | some (.val (.int i), e1) => some (some i, e1)
    | _ => none
/-- what is walked -/
def evI (C : Cfg) : CI → Ev → Option (List D × Ev)
  | .blt b es, env => match evL C es env with
    | none => none
    | some (rs, e1) => (keeps rs).bind fun ds => (iterB b ds).map fun xs => (xs, e1)
  | .of e, env => match ev C e env with
    | none => none
    | some (r, e1) => r.keep.bind fun d => (itemsOf d).map fun xs => (xs, e1)
end

/-! ### statements -/
inductive Fl where
  | next | brk | cnt | ret (r : RV)
def parL : List (Nat × Bool) → List RV → Ev → Option Ev
  | [], [], env => some env
  | (i, false) :: t, r :: rs, env => r.keep.bind fun d => parL t rs (env.set i (some (.val d)))
  | (i, true) :: t, .own o :: rs, env => parL t rs (env.set i (some (.own o)))
  | (i, true) :: t, .val d :: rs, env => parL t rs (env.set i (some (.val d)))
  | _, _, _ => none
/-- each object of its own goes to a slot that owns -/
def parOk : List (Nat × Bool) → List RV → Bool
  | (_, false) :: t, .val _ :: rs => parOk t rs
  | (_, true) :: t, _ :: rs => parOk t rs
  | [], [] => true
  | _, _ => false
/-- f: the body -/
def foL (f : D → Ev → Option (Fl × Ev)) : List D → Ev → Option (Fl × Ev)
  | [], env => some (.next, env)
  | x :: xs, env => match f x env with
    | some (.next, e1) => foL f xs e1
    | some (.cnt, e1) => foL f xs e1
    | some (.brk, e1) => some (.next, e1)
    | some (.ret r, e1) => some (.ret r, e1)
    | none => none
def whL (c : Ev → Option (Bool × Ev)) (f : Ev → Option (Fl × Ev)) : Nat → Ev → Option (Fl × Ev)
  | 0, _ => none
  | n + 1, env => match c env with
    | none => none
    | some (false, e1) => some (.next, e1)
    | some (true, e1) => match f e1 with
      | some (.next, e2) => whL c f n e2
      | some (.cnt, e2) => whL c f n e2
      | some (.brk, e2) => some (.next, e2)
      | some (.ret r, e2) => some (.ret r, e2)
      | none => none
def evT (C : Cfg) (e : CE) (env : Ev) : Option (Bool × Ev) := match ev C e env with
  | none => none
  | some (r, e1) => (truthD r.view).map fun b => (b, e1)
mutual
def evS (C : Cfg) : CS → Ev → Option (Fl × Ev)
  | .asg t e, env => match ev C e env with
    | none => none
    | some (r, e1) => r.keep.bind fun d => (setT t d e1).map fun e2 => (.next, e2)
  | .asgO i e, env => match ev C e env with
    | some (.own o, e1) => some (.next, e1.set i (some (.own o)))
    | some (.val d, e1) => some (.next, e1.set i (some (.val d)))
    | _ => none
  | .par own es, env => match evL C es env with
    | none => none
    | some (rs, e1) => if brwOk rs (pureL es) && (own.all (fun p => !p.2) || parOk own rs) then (parL own rs e1).map fun e2 => (.next, e2) else none
  | .put i path k e, env => match ev C e env with
    | none => none
    | some (r, e1) => match evL C path e1 with
      | none => none
      | some (ps, e2) => (keeps ps).bind fun ks => if pureL path && (ps.isEmpty || pureE k) && (placeAt e2 i ks).isSome then match ev C k e2 with
        | some (.val kd, e3) => match e3[i]? with
          | some (some (.own o)) => r.toO.bind fun v => (atP o ks).bind fun o1 => (setAt o1 kd v).bind fun o2 => (putP o ks o2).map fun o3 => (.next, e3.set i (some (.own o3)))
          | _ => none
        | _ => none
        else none
  | .aug i op e, env => if op = .add ∨ op = .sub then match env[i]? with
    | some (some (.val (.int x))) => match ev C e env with
      | some (.val (.int y), e1) => match binR op (.int x) (.int y) with
        | some (.val d) => some (.next, e1.set i (some (.val d)))
        | _ => none
      | _ => none
    | _ => none
    else none
  | .exp e, env => (ev C e env).map fun p => (.next, p.2)
  | .ret e, env => match ev C e env with
    | none => none
    | some (r, e1) => if r.isBrw then none else some (.ret r, e1)
  | .retO i, env => match env[i]? with
    | some (some (.own o)) => some (.ret (.own o), env.set i none)
    | some (some (.val d)) => some (.ret (.val d), env)
    | _ => none
  | .ifs c a b, env => match evT C c env with
    | none => none
    | some (true, e1) => evB C a e1
    | some (false, e1) => evB C b e1
  | .whl c b, env => whL (evT C c) (evB C b) C.wf env
  | .fo t it b, env => match evI C it env with
    | none => none
    | some (xs, e1) => foL (fun x e => match setT t x e with
      | none => none
      | some e2 => evB C b e2) xs e1
  | .brk, env => some (.brk, env)
  | .cnt, env => some (.cnt, env)
  | .pas, env => some (.next, env)
  | .nev, _ => none
def evB (C : Cfg) : CB → Ev → Option (Fl × Ev)
  | .nil, env => some (.next, env)
  | .cons s b, env => match evS C s env with
    | some (.next, e1) => evB C b e1
    | r => r
end
mutual
/-- the slots that a block stores to -/
def stoS : CS → List Nat
  | .asg t _ => tgtIx t
  | .asgO i _ => [i]
  | .aug i _ _ => [i]
  | .par own _ => own.map (·.1)
  | .ifs _ a b => stoB a ++ stoB b
  | .whl _ b => stoB b
  | .fo t _ b => tgtIx t ++ stoB b
  | _ => []
def stoB : CB → List Nat
  | .nil => []
  | .cons s b => stoS s ++ stoB b
end

/-! ### functions -/
structure Fn where
  /-- the parameters' names, how many slots -/
  ps : List Str
  n : Nat
  body : CB
/-- where the parameters' values stand among the written ones -/
def ordK (ps keys : List Str) : List Nat := ps.map fun p => keys.findIdx fun q => decide (q = p)
/-- keyword arguments brought into the parameters' order -/
def byName (ps ks : List Str) (ss : List Sl) : Option (List Sl) :=
  let m := ss.length - ks.length
  if m + ks.length = ss.length ∧ ss.length = ps.length ∧ (ps.take m ++ ks).Nodup ∧ ks.all ps.contains = true ∧ ps.all (ps.take m ++ ks).contains = true then (ordK ps (ps.take m ++ ks)).mapM fun i => ss[i]? else none
def outsOf : List Sl → List (Option Sl) → Option (List Sl)
  | [], _ => some []
  | .val d :: r, _ :: e => (outsOf r e).map (.val d :: ·)
  | .own _ :: r, some (.own o) :: e => (outsOf r e).map (.own o :: ·)
  | _, _ => none
def ownIx : Nat → List Sl → List Nat
  | _, [] => []
  | n, .val _ :: r => ownIx (n + 1) r
  | n, .own _ :: r => n :: ownIx (n + 1) r
def runFn (C : Cfg) (f : Fn) (as : List Sl) : Option (RV × List Sl) :=
  if as.length = f.ps.length ∧ (ownIx 0 as).all (fun i => !(stoB f.body).contains i) then
    match evB C f.body (as.map some ++ List.replicate (f.n - as.length) none) with
    | some (.ret r, env) => (outsOf as env).map fun o => (r, o)
    | some (.next, env) => (outsOf as env).map fun o => (.val .none, o)
    | _ => none
  else none
structure Prg where
  fns : List (Str × Fn)
  glob : Str → Option D
  wf : Nat
/-- calls at most n deep -/
def run (P : Prg) : Nat → Str → List Str → List Sl → Option (RV × List Sl)
  | 0, _, _, _ => none
  | n + 1, f, ks, as => match P.fns.lookup f with
    | none => none
    | some fn => if ks.isEmpty then runFn ⟨run P n, P.glob, P.wf⟩ fn as else
      if (ownIx 0 as).isEmpty then (byName fn.ps ks as).bind fun as' => (runFn ⟨run P n, P.glob, P.wf⟩ fn as').map fun p => (p.1, as) else none
end EV

set_option Elab.async false
set_option linter.all false
set_option maxRecDepth 100000
set_option maxHeartbeats 1000000
/-! EVp: what is pure leaves the locals alone (own work). -/
namespace EV
open PySem PySem.Spec PyProof.Rows L2
section
variable {C : Cfg}
/-- the same but for the slots vs -/
def AgreeOff (vs : List Nat) (e e' : Ev) : Prop := e.length = e'.length ∧ ∀ i, i ∉ vs → e[i]? = e'[i]?
theorem AgreeOff.refl {vs : List Nat} {e : Ev} : AgreeOff vs e e := ⟨rfl, fun _ _ => rfl⟩
theorem AgreeOff.trans {vs : List Nat} {a b c : Ev} (h : AgreeOff vs a b) (g : AgreeOff vs b c) : AgreeOff vs a c := ⟨h.1.trans g.1, fun i hi => (h.2 i hi).trans (g.2 i hi)⟩
theorem AgreeOff.set {vs : List Nat} {e : Ev} {i : Nat} {s : Option Sl} (h : i ∈ vs) : AgreeOff vs e (e.set i s) := ⟨by rw [List.length_set], fun j hj => by rw [List.getElem?_set_ne (show i ≠ j from fun z => by subst z; exact hj h)]⟩
theorem wipe_agree : ∀ {vs ws : List Nat} {e : Ev}, (∀ v ∈ ws, v ∈ vs) → AgreeOff vs e (wipeE e ws)
  | _, [], _, _ => .refl
  | vs, v :: ws, e, h => (wipe_agree fun x hx => h x (List.mem_cons_of_mem _ hx)).trans (.set (h v List.mem_cons_self))
mutual
theorem setT_agree {vs : List Nat} : ∀ {t : CT} {d : D} {e e' : Ev}, (∀ v ∈ tgtIx t, v ∈ vs) → setT t d e = some e' → AgreeOff vs e e'
  | .nm i, d, e, e', h, he => by
    have he : some (e.set i (some (.val d))) = some e' := he
    cases he
    exact .set (h i (by simp [tgtIx]))
  | .tup ts, .tuple ds, e, e', h, he => setTs_agree (ts := ts) (fun v hv => h v (by simpa [tgtIx] using hv)) (show setTs ts ds e = some e' from he)
  | .tup ts, .none, e, e', h, he => by cases he
  | .tup ts, .bool _, e, e', h, he => by cases he
  | .tup ts, .int _, e, e', h, he => by cases he
  | .tup ts, .str _, e, e', h, he => by cases he
  | .tup ts, .list ds, e, e', h, he => setTs_agree (ts := ts) (fun v hv => h v (by simpa [tgtIx] using hv)) (show setTs ts ds e = some e' from he)
  | .tup ts, .dict _, e, e', h, he => by cases he
theorem setTs_agree {vs : List Nat} : ∀ {ts : CTs} {ds : List D} {e e' : Ev}, (∀ v ∈ tgtIx.tgtsIx ts, v ∈ vs) → setTs ts ds e = some e' → AgreeOff vs e e'
  | .nil, [], e, e', h, he => by
    have he : some e = some e' := he
    cases he
    exact .refl
  | .nil, _ :: _, e, e', h, he => by cases he
  | .cons t ts, [], e, e', h, he => by cases he
  | .cons t ts, d :: ds, e, e', h, he => by
    obtain ⟨e1, h1, h2⟩ := Option.bind_eq_some_iff.mp (show ((setT t d e).bind fun e => setTs ts ds e) = some e' from he)
    exact (setT_agree (t := t) (fun v hv => h v (by simp [tgtIx.tgtsIx, hv])) h1).trans (setTs_agree (ts := ts) (fun v hv => h v (by simp [tgtIx.tgtsIx, hv])) h2)
end
theorem back_len : ∀ {vs : List Nat} {e old : Ev}, (backE e old vs).length = e.length
  | [], _, _ => rfl
  | v :: vs, e, old => by
    show ((backE e old vs).set v _).length = _
    rw [List.length_set]
    exact back_len
theorem back_get {old : Ev} : ∀ {vs : List Nat} {e : Ev} {i : Nat}, i < e.length → (backE e old vs)[i]? = if i ∈ vs then some (old.getD i none) else e[i]?
  | [], _, _, _ => by simp [backE]
  | v :: vs, e, i, h => by
    show ((backE e old vs).set v (old.getD v none))[i]? = _
    by_cases z : v = i
    · subst z
      rw [List.getElem?_set_self (by rw [back_len]; exact h), if_pos List.mem_cons_self]
    · rw [List.getElem?_set_ne z, back_get h]
      by_cases q : i ∈ vs
      · rw [if_pos q, if_pos (List.mem_cons_of_mem _ q)]
      · rw [if_neg q, if_neg fun y => (List.mem_cons.mp y).elim (fun z' => z z'.symm) q]
theorem back_same {vs : List Nat} {e old : Ev} (h : AgreeOff vs old e) : backE e old vs = old := by
  apply List.ext_getElem?
  intro i
  by_cases hi : i < e.length
  · rw [back_get hi]
    have hi' : i < old.length := by rw [h.1]; exact hi
    by_cases q : i ∈ vs
    · rw [if_pos q, List.getD_eq_getElem?_getD, List.getElem?_eq_getElem hi']
      rfl
    · rw [if_neg q, h.2 i q]
  · rw [List.getElem?_eq_none (by rw [back_len]; omega), List.getElem?_eq_none (by rw [h.1]; omega)]
theorem lcL_agree {vs : List Nat} {f : D → Ev → Option (Option D × Ev)} (hf : ∀ x e o e', f x e = some (o, e') → AgreeOff vs e e') : ∀ {xs : List D} {e : Ev} {p : List D × Ev}, lcL f xs e = some p → AgreeOff vs e p.2
  | [], e, p, h => by
    have h : some ([], e) = some p := h
    cases h
    exact .refl
  | x :: xs, e, p, h => by
    unfold lcL at h
    split at h
    · rename_i d e1 he
      obtain ⟨p', h1, h2⟩ := Option.map_eq_some_iff.mp h
      subst h2
      exact (hf x e _ e1 he).trans (show AgreeOff vs e1 p'.2 from lcL_agree hf h1)
    · rename_i e1 he
      exact (hf x e _ e1 he).trans (lcL_agree hf h)
    · cases h
/-- an argument list with nothing lent -/
def noLend : List Ag → Bool
  | [] => true
  | .val _ :: r => noLend r
  | .lend _ :: _ => false
theorem lent_same : ∀ {as : List Ag} {e : Ev} {p : List Sl × Ev}, noLend as = true → lent e as = some p → p.2 = e
  | [], e, p, _, h => by
    have h : some ([], e) = some p := h
    cases h; rfl
  | .val d :: r, e, p, n, h => by
    obtain ⟨q, h1, h2⟩ := Option.map_eq_some_iff.mp (show (lent e r).map (fun p => (Sl.val d :: p.1, p.2)) = some p from h)
    subst h2
    exact (show q.2 = e from lent_same (show noLend r = true from n) h1)
  | .lend _ :: _, _, _, n, _ => by cases n
theorem backL_same : ∀ {as : List Ag} {ss : List Sl} {e e' : Ev}, noLend as = true → backL e as ss = some e' → e' = e
  | [], [], e, e', _, h => by
    have h : some e = some e' := h
    cases h; rfl
  | [], _ :: _, e, e', _, h => by cases h
  | .val d :: r, s :: ss, e, e', n, h => backL_same (as := r) (show noLend r = true from n) (show backL e r ss = some e' from h)
  | .val d :: r, [], e, e', n, h => by cases h
  | .lend _ :: _, _, _, _, n, _ => by cases n
theorem p2 {p q : Bool} (z : (p && q) = true) : p = true ∧ q = true := by rw [Bool.and_eq_true] at z; exact z
mutual
theorem pure_ev : ∀ {e : CE} {env env' : Ev} {r : RV}, pureE e = true → ev C e env = some (r, env') → env' = env
  | .var i, env, env', r, _, h => by
    simp only [ev] at h
    split at h
    · cases h; rfl
    · cases h; rfl
    · cases h
  | .mv i, env, env', r, p, h => by cases p
  | .con c, env, env', r, _, h => by simp only [ev] at h; cases h; rfl
  | .glo x, env, env', r, _, h => by
    simp only [ev] at h
    obtain ⟨d, _, e⟩ := Option.map_eq_some_iff.mp h
    cases e; rfl
  | .lend _, env, env', r, p, h => by cases p
  | .bin op a b, env, env', r, p, h => by
    obtain ⟨pa, pb⟩ := p2 (show (pureE a && pureE b) = true from p)
    simp only [ev] at h
    split at h
    · cases h
    · rename_i ra e1 ea
      split at h
      · cases h
      · rename_i rb e2 eb
        obtain rfl := pure_ev pa ea
        obtain rfl := pure_ev pb eb
        split at h
        · cases h
        · split at h
          · obtain ⟨_, _, e⟩ := Option.map_eq_some_iff.mp h
            cases e; rfl
          · cases h
  | .neg a, env, env', r, p, h => by
    simp only [ev] at h
    split at h
    · rename_i ea
      cases h
      exact pure_ev (e := a) p ea
    · cases h
  | .not a, env, env', r, p, h => by
    simp only [ev] at h
    split at h
    · cases h
    · rename_i ea
      obtain ⟨_, _, e⟩ := Option.map_eq_some_iff.mp h
      cases e
      exact pure_ev (e := a) p ea
  | .cmp op a b, env, env', r, p, h => by
    obtain ⟨pa, pb⟩ := p2 (show (pureE a && pureE b) = true from p)
    simp only [ev] at h
    split at h
    · cases h
    · rename_i ra e1 ea
      split at h
      · cases h
      · rename_i rb e2 eb
        obtain rfl := pure_ev pa ea
        obtain rfl := pure_ev pb eb
        split at h
        · cases h
        · obtain ⟨_, _, e⟩ := Option.map_eq_some_iff.mp h
          cases e; rfl
  | .chn op op' a b c, env, env', r, p, h => by
    obtain ⟨pab, pc⟩ := p2 (show (pureE a && pureE b && pureE c) = true from p)
    obtain ⟨pa, pb⟩ := p2 pab
    simp only [ev] at h
    split at h
    · cases h
    · rename_i ra e1 ea
      split at h
      · cases h
      · rename_i rb e2 eb
        obtain rfl := pure_ev pa ea
        obtain rfl := pure_ev pb eb
        split at h
        · cases h
        · split at h
          · cases h
          · cases h; rfl
          · split at h
            · cases h
            · rename_i rc e3 ec
              obtain rfl := pure_ev pc ec
              obtain ⟨_, _, e⟩ := Option.map_eq_some_iff.mp h
              cases e; rfl
  | .and a b, env, env', r, p, h => by
    obtain ⟨pa, pb⟩ := p2 (show (pureE a && pureE b) = true from p)
    simp only [ev] at h
    split at h
    · cases h
    · rename_i ra e1 ea
      obtain rfl := pure_ev pa ea
      split at h
      · cases h
      · exact pure_ev pb h
      · cases h; rfl
  | .or a b, env, env', r, p, h => by
    obtain ⟨pa, pb⟩ := p2 (show (pureE a && pureE b) = true from p)
    simp only [ev] at h
    split at h
    · cases h
    · rename_i ra e1 ea
      obtain rfl := pure_ev pa ea
      split at h
      · cases h
      · exact pure_ev pb h
      · cases h; rfl
  | .ite c a b, env, env', r, p, h => by
    obtain ⟨pab, pc⟩ := p2 (show (pureE a && pureE b && pureE c) = true from p)
    obtain ⟨pa, pb⟩ := p2 pab
    simp only [ev] at h
    split at h
    · cases h
    · rename_i rc e1 ec
      obtain rfl := pure_ev pc ec
      split at h
      · cases h
      · exact pure_ev pa h
      · exact pure_ev pb h
  | .tup es, env, env', r, p, h => by
    simp only [ev] at h
    split at h
    · cases h
    · rename_i rs e1 el
      obtain rfl := pure_evL (es := es) p el
      obtain ⟨_, _, e⟩ := Option.bind_eq_some_iff.mp h
      split at e
      · cases e; rfl
      · cases e
  | .lst es, env, env', r, p, h => by
    simp only [ev] at h
    split at h
    · cases h
    · rename_i rs e1 el
      obtain rfl := pure_evL (es := es) p el
      obtain ⟨_, _, e⟩ := Option.bind_eq_some_iff.mp h
      split at e
      · cases e; rfl
      · cases e
  | .dct ps, env, env', r, p, h => by
    simp only [ev] at h
    split at h
    · cases h
    · rename_i rs e1 el
      obtain rfl := pure_evP (ps := ps) p el
      split at h
      · cases h; rfl
      · cases h
  | .rng t es, env, env', r, p, h => by
    simp only [ev] at h
    split at h
    · cases h
    · rename_i rs e1 el
      obtain rfl := pure_evL (es := es) p el
      obtain ⟨_, _, e⟩ := Option.bind_eq_some_iff.mp h
      obtain ⟨_, _, e⟩ := Option.map_eq_some_iff.mp e
      cases e; rfl
  | .idx a k, env, env', r, p, h => by
    obtain ⟨pa, pb⟩ := p2 (show (pureE a && pureE k) = true from p)
    simp only [ev] at h
    split at h
    · cases h
    · rename_i ra e1 ea
      split at h
      · cases h
      · rename_i rb e2 eb
        obtain rfl := pure_ev pa ea
        obtain rfl := pure_ev pb eb
        split at h
        · cases h
        · split at h
          · obtain ⟨_, _, e⟩ := Option.map_eq_some_iff.mp h
            cases e; rfl
          · cases h
  | .slc a lo hi, env, env', r, p, h => by
    obtain ⟨pab, pc⟩ := p2 (show (pureE a && pureO lo && pureO hi) = true from p)
    obtain ⟨pa, pb⟩ := p2 pab
    simp only [ev] at h
    split at h
    · cases h
    · rename_i ra e1 ea
      split at h
      · cases h
      · rename_i rb e2 eb
        split at h
        · cases h
        · rename_i rc e3 ec
          obtain rfl := pure_ev pa ea
          obtain rfl := pure_evO pb eb
          obtain rfl := pure_evO pc ec
          split at h
          · cases h
          · obtain ⟨_, _, e⟩ := Option.map_eq_some_iff.mp h
            cases e; rfl
  | .rev a, env, env', r, p, h => by
    simp only [ev] at h
    split at h
    · cases h
    · rename_i ra e1 ea
      obtain rfl := pure_ev (e := a) p ea
      obtain ⟨_, _, e⟩ := Option.map_eq_some_iff.mp h
      cases e; rfl
  | .call f es kws, env, env', r, p, h => by
    simp only [ev] at h
    split at h
    · cases h
    · rename_i as e1 ea
      obtain ⟨rfl, nl⟩ := pure_evA (es := es) p ea
      split at h
      · cases h
      · rename_i ss e2 el
        obtain rfl := lent_same nl el
        split at h
        · cases h
        · split at h
          · cases h
          · obtain ⟨e3, hb, e⟩ := Option.map_eq_some_iff.mp h
            cases e
            exact backL_same nl hb
  | .blt b es, env, env', r, p, h => by
    simp only [ev] at h
    split at h
    · cases h
    · rename_i rs e1 el
      obtain rfl := pure_evL (es := es) p el
      split at h
      · cases h
      · obtain ⟨_, _, e⟩ := Option.bind_eq_some_iff.mp h
        obtain ⟨_, _, e⟩ := Option.map_eq_some_iff.mp e
        cases e; rfl
  | .mth m o es, env, env', r, p, h => by
    obtain ⟨pa, pb⟩ := p2 (show (pureE o && pureL es) = true from p)
    simp only [ev] at h
    split at h
    · cases h
    · rename_i ro e1 eo
      split at h
      · cases h
      · rename_i rs e2 el
        obtain rfl := pure_ev pa eo
        obtain rfl := pure_evL pb el
        split at h
        · cases h
        · obtain ⟨_, _, e⟩ := Option.bind_eq_some_iff.mp h
          obtain ⟨_, _, e⟩ := Option.bind_eq_some_iff.mp e
          obtain ⟨_, _, e⟩ := Option.map_eq_some_iff.mp e
          cases e; rfl
  | .mut m i path es, env, env', r, p, h => by cases p
  | .isi a ts, env, env', r, p, h => by
    simp only [ev] at h
    split at h
    · cases h
    · rename_i ra e1 ea
      obtain rfl := pure_ev (e := a) p ea
      obtain ⟨_, _, e⟩ := Option.map_eq_some_iff.mp h
      cases e; rfl
  | .lc t it cond elt vs, env, env', r, p, h => by
    obtain ⟨p1, pt⟩ := p2 (show (pureI it && pureE cond && pureE elt && (tgtIx t).all vs.contains) = true from p)
    obtain ⟨p1, pelt⟩ := p2 p1
    obtain ⟨pit, pcond⟩ := p2 p1
    simp only [ev] at h
    split at h
    · cases h
    · rename_i xs e1 ei
      obtain rfl := pure_evI pit ei
      split at h
      · obtain ⟨q, hq, e⟩ := Option.bind_eq_some_iff.mp h
        split at e
        · cases e
          refine back_same (lcL_agree (fun x e o e' hx => ?_) hq)
          split at hx
          · cases hx
          · rename_i ea es
            have g1 : AgreeOff vs e ea := (wipe_agree fun _ z => z).trans (setT_agree (fun v hv => by
              have := List.all_eq_true.mp pt v hv
              simpa using this) es)
            split at hx
            · cases hx
            · rename_i rc eb ec
              obtain rfl := pure_ev pcond ec
              split at hx
              · cases hx
              · cases hx; exact g1
              · split at hx
                · cases hx
                · rename_i r2 ec2 ee
                  obtain rfl := pure_ev pelt ee
                  obtain ⟨_, _, e3⟩ := Option.map_eq_some_iff.mp hx
                  cases e3
                  exact g1
        · cases e
      · cases h
theorem pure_evL : ∀ {es : CL} {env env' : Ev} {rs : List RV}, pureL es = true → evL C es env = some (rs, env') → env' = env
  | .nil, env, env', rs, _, h => by simp only [evL] at h; cases h; rfl
  | .cons e es, env, env', rs, p, h => by
    obtain ⟨pa, pb⟩ := p2 (show (pureE e && pureL es) = true from p)
    simp only [evL] at h
    split at h
    · cases h
    · rename_i r e1 ea
      obtain ⟨q, hq, e2⟩ := Option.map_eq_some_iff.mp h
      cases e2
      obtain rfl := pure_ev pa ea
      exact pure_evL (es := es) pb (show evL C es _ = some (q.1, q.2) from hq)
theorem pure_evA : ∀ {es : CL} {env env' : Ev} {as : List Ag}, pureL es = true → evA C es env = some (as, env') → env' = env ∧ noLend as = true
  | .nil, env, env', rs, _, h => by simp only [evA] at h; cases h; exact ⟨rfl, rfl⟩
  | .cons e es, env, env', rs, p, h => by
    obtain ⟨pa, pb⟩ := p2 (show (pureE e && pureL es) = true from p)
    have hh : ∃ r e1 d q, ev C e env = some (r, e1) ∧ evA C es e1 = some q ∧ rs = .val d :: q.1 ∧ env' = q.2 := by
      rw [evA] at h
      · split at h
        · cases h
        · rename_i r e1 ea
          obtain ⟨d, hd, e2⟩ := Option.bind_eq_some_iff.mp h
          obtain ⟨q, hq, e3⟩ := Option.map_eq_some_iff.mp e2
          cases e3
          exact ⟨r, e1, d, q, ea, hq, rfl, rfl⟩
      · intro i z
        subst z
        cases pa
    obtain ⟨r, e1, d, q, ea, hq, rfl, rfl⟩ := hh
    obtain rfl := pure_ev pa ea
    have g := pure_evA (es := es) (as := q.1) (env' := q.2) pb hq
    exact ⟨g.1, g.2⟩
theorem pure_evP : ∀ {ps : CP} {env env' : Ev} {ks : List (Key × O)}, pureP ps = true → evP C ps env = some (ks, env') → env' = env
  | .nil, env, env', rs, _, h => by simp only [evP] at h; cases h; rfl
  | .cons k v ps, env, env', rs, p, h => by
    obtain ⟨pab, pc⟩ := p2 (show (pureE k && pureE v && pureP ps) = true from p)
    obtain ⟨pa, pb⟩ := p2 pab
    simp only [evP] at h
    split at h
    · cases h
    · rename_i rk e1 ek
      split at h
      · cases h
      · rename_i rv e2 ev'
        obtain ⟨_, _, h⟩ := Option.bind_eq_some_iff.mp h
        obtain ⟨_, _, h⟩ := Option.bind_eq_some_iff.mp h
        obtain ⟨q, hq, e3⟩ := Option.map_eq_some_iff.mp h
        cases e3
        obtain rfl := pure_ev pa ek
        obtain rfl := pure_ev pb ev'
        exact pure_evP (ps := ps) pc (show evP C ps _ = some (q.1, q.2) from hq)
theorem pure_evO : ∀ {o : CO} {env env' : Ev} {r : Option Int}, pureO o = true → evO C o env = some (r, env') → env' = env
  | .non, env, env', r, _, h => by simp only [evO] at h; cases h; rfl
  | .som e, env, env', r, p, h => by
    simp only [evO] at h
    split at h
    · rename_i ea
      cases h
      exact pure_ev (e := e) p ea
    · cases h
theorem pure_evI : ∀ {i : CI} {env env' : Ev} {xs : List D}, pureI i = true → evI C i env = some (xs, env') → env' = env
  | .blt b es, env, env', xs, p, h => by
    simp only [evI] at h
    split at h
    · cases h
    · rename_i rs e1 el
      obtain rfl := pure_evL (es := es) p el
      obtain ⟨_, _, e⟩ := Option.bind_eq_some_iff.mp h
      obtain ⟨_, _, e⟩ := Option.map_eq_some_iff.mp e
      cases e; rfl
  | .of e, env, env', xs, p, h => by
    simp only [evI] at h
    split at h
    · cases h
    · rename_i r e1 ea
      obtain rfl := pure_ev (e := e) p ea
      obtain ⟨_, _, e⟩ := Option.bind_eq_some_iff.mp h
      obtain ⟨_, _, e⟩ := Option.map_eq_some_iff.mp e
      cases e; rfl
end
end
end EV

set_option Elab.async false
set_option linter.all false
set_option maxRecDepth 100000
/-! EV2: from the row's syntax to the small language (own work). -/
namespace EV
open PySem PySem.Spec PyProof.Rows L2

structure Cc where
  N : List Str
  sc : Scope
  /-- slots whose objects are changed in place -/
  own : List Nat
  /-- which parameters a def changes -/
  muts : Str → List Nat
  fns : List Str
  glb : List Str
def ixOf (N : List Str) (x : Str) : Option Nat := N.findIdx? fun y => decide (y = x)
/-- the slot of a name that is seen here -/
def Cc.slot (c : Cc) (x : Str) : Option Nat := match c.sc.names.lookup x with
  | some .local => ixOf c.N x
  | some .cell => ixOf c.N x
  | some .free => ixOf c.N x
  | _ => none
/-- .. that may be stored -/
def Cc.loc (c : Cc) (x : Str) : Option Nat := match c.sc.names.lookup x with
  | some .local => ixOf c.N x
  | some .cell => ixOf c.N x
  | _ => none
def Cc.isGl (c : Cc) (x : Str) : Bool := decide (c.sc.names.lookup x = some .globalImplicit)
def cOp : Operator → Option BOp
  | .Add => some .add
  | .Sub => some .sub
  | .Mult => some .mul
  | .FloorDiv => some .fdiv
  | .Mod => some .mod
  | .Pow => some .pow
  | .LShift => some .shl
  | .RShift => some .shr
  | .BitAnd => some .band
  | .BitOr => some .bor
  | .BitXor => some .bxor
  | _ => none
def cCmp : CmpOp → Option COp
  | .Eq => some .eq
  | .NotEq => some .ne
  | .Lt => some .lt
  | .LtE => some .le
  | .Gt => some .gt
  | .GtE => some .ge
  | .Is => some .isn
  | .IsNot => some .isnn
  | .In => some .isin
  | .NotIn => some .notin
def cBlt (x : Str) : Option Blt :=
  if x = "len" then some .len else if x = "int" then some .int else if x = "tuple" then some .tuple else if x = "list" then some .list
  else if x = "max" then some .max else if x = "min" then some .min else if x = "abs" then some .abs else if x = "sum" then some .sum
  else if x = "any" then some .any else if x = "all" then some .all else if x = "repr" then some .repr
  else if x = "bool" then some .bool else none
def cIter (x : Str) : Option Blt :=
  if x = "range" then some .range else if x = "enumerate" then some .enumerate else if x = "zip" then some .zip else none
def cMth (x : Str) : Option Mth :=
  if x = "index" then some .index else if x = "get" then some .get else none
def cMut (x : Str) : Option Mth :=
  if x = "append" then some .append else if x = "extend" then some .extend else if x = "pop" then some .pop else none
def tyOf (x : Str) : Option Ty :=
  if x = "int" then some .int else if x = "bool" then some .bool else if x = "str" then some .str else if x = "list" then some .list
  else if x = "tuple" then some .tuple else if x = "dict" then some .dict else none
def cTy (c : Cc) : Expr → Option Ty
  | .Name x _ => if c.isGl x && !c.fns.contains x && !c.glb.contains x then tyOf x else none
  | _ => none
/-- isinstance's second argument -/
def cTys (c : Cc) : Expr → Option (List Ty)
  | .Name x p => (cTy c (.Name x p)).map fun t => [t]
  | .Tuple es _ _ => es.mapM (cTy c)
  | _ => none
mutual
def cT (c : Cc) : Nat → Expr → Option CT
  | 0, _ => none
  | n + 1, .Name x _ => (c.loc x).map .nm
  | n + 1, .Tuple es _ _ => (cTs c n es).map .tup
  | _, _ => none
def cTs (c : Cc) : Nat → List Expr → Option CTs
  | 0, _ => none
  | _ + 1, [] => some .nil
  | n + 1, e :: es => (cT c n e).bind fun t => (cTs c n es).map fun ts => .cons t ts
end
/-- the slots of a comprehension's own names -/
def ownOf (N : List Str) (sc : Scope) : List (Str × Nat) := sc.names.filterMap fun y => match y.2 with
  | .local => (ixOf N y.1).map fun i => (y.1, i)
  | .cell => (ixOf N y.1).map fun i => (y.1, i)
  | _ => none
def Cc.into (c : Cc) (sc : Scope) : Cc := { c with sc := sc, own := c.own.filter fun i => !((ownOf c.N sc).map (·.2)).contains i }
def isMinusOne : Expr → Bool
  | .UnaryOp .USub (.Constant (.int 1) _ _) _ => true
  | _ => false
def notStar : Expr → Bool
  | .Starred _ _ => false
  | _ => true
def baseOk : Expr → Bool
  | .Call _ _ _ _ => false
  | _ => true
def notComp : Expr → Bool
  | .ListComp .. => false
  | .SetComp .. => false
  | .DictComp .. => false
  | _ => true
def notSlice : Expr → Bool
  | .Slice .. => false
  | _ => true
def notTup : Expr → Bool
  | .Tuple .. => false
  | _ => true
/-- a built-in's name that the module does not store -/
def Cc.bltn (c : Cc) (f : Str) : Bool := c.isGl f && !c.fns.contains f && !c.glb.contains f
/-- are the stores of a, b = x, y swapped; none: the model does not say -/
def isSt : Expr → Bool
  | .Starred .. => true
  | _ => false
def swNames (sc : Scope) (ts : List Expr) : List Str := ts.filterMap fun
  | .Name id pos => if sc.names.lookup id == some .local && pos.line == ((ts.head?.map (·.pos.line)).getD 0) then some id else none
  | _ => none
def swK (sc : Scope) (ts vs : List Expr) : Option Bool :=
  if !(ts.length == 2 || ts.length == 3) || vs.length != ts.length then some false
  else if vs.any isSt then none
  else if (swNames sc ts).length != ts.length || (swNames sc ts).eraseDups.length != (swNames sc ts).length then some false
  else if vs.all (foldedForSure 8) then some false
  else if vs.all (constantsAlone 8) then none
  else some true
/-- list(range(..)), tuple(range(..)): the range's arguments -/
def rngArg (c : Cc) (f : Str) (args : List Expr) : Option (List Expr) := match args with
  | [.Call (.Name g _) as [] _] => if (f = ("list" : Str) ∨ f = ("tuple" : Str)) ∧ g = ("range" : Str) ∧ c.bltn g = true ∧ (as.length = 1 ∨ as.length = 2) then some as else none
  | _ => none
/-- what is walked by a loop alone -/
def iterArg (c : Cc) (f : Str) (tg : Expr) (args : List Expr) : Option Blt :=
  if c.bltn f then (match cIter f with
    | some .range => if args.length = 1 ∨ args.length = 2 then some .range else none
    | some .enumerate => (match tg with
      | .Tuple _ _ _ => if args.length = 1 then some .enumerate else none
      | _ => none)
    | some .zip => (match tg with
      | .Tuple _ _ _ => if args.length = 2 then some .zip else none
      | _ => none)
    | _ => none) else none
def isLc : Expr → Bool
  | .ListComp .. => true
  | _ => false
def isSet : Expr → Bool
  | .Set .. => true
  | _ => false
/-- the slot that is lent -/
def lendOf (c : Cc) (ld : Bool) : Expr → Option Nat
  | .Name x _ => if ld = true ∧ x ≠ ("__debug__" : Str) ∧ x ≠ ("__classdict__" : Str) then (match c.slot x with
    | some i => if c.own.contains i then some i else none
    | none => none) else none
  | _ => none
def appL : CL → CL → CL
  | .nil, q => q
  | .cons e es, q => .cons e (appL es q)
mutual
def cE (c : Cc) (kp : Bool) : Nat → Expr → Option CE
  | 0, _ => none
  | n + 1, e => match e with
    | .Name x _ => if x = ("__debug__" : Str) ∨ x = ("__classdict__" : Str) ∨ x = ("__name__" : Str) then none else match c.slot x with
      | some i => some (if kp && c.own.contains i then .mv i else .var i)
      | none => if c.isGl x && c.glb.contains x then some (.glo x) else none
    | .Constant k _ _ => match k with
      | .none => some (.con .non)
      | .bool b => some (.con (.bl b))
      | .int i => some (.con (.int i))
      | .str x => some (.con (.str x))
      | _ => none
    | .BinOp a op b _ => (cOp op).bind fun o => (cE c false n a).bind fun a' => (cE c false n b).map fun b' => .bin o a' b'
    | .UnaryOp .USub a _ => (cE c false n a).map .neg
    | .UnaryOp .Not a _ => (cE c false n a).map .not
    | .BoolOp op (a :: b :: r) p => (cE c false n a).bind fun a' => (cBo c op n (b :: r) p).map fun b' => match op with
      | .And => .and a' b'
      | .Or => .or a' b'
    | .Compare a [op] [b] _ => if behindInMarks op b then none else (cCmp op).bind fun o => (cE c false n a).bind fun a' => (cE c false n b).map fun b' => .cmp o a' b'
    | .Compare a [op, op'] [b, d] _ => if behindInMarks op b || behindInMarks op' d then none else
      (cCmp op).bind fun o => (cCmp op').bind fun o' => (cE c false n a).bind fun a' => (cE c false n b).bind fun b' => (cE c false n d).map fun d' => .chn o o' a' b' d'
    | .IfExp t a b _ => (cE c false n t).bind fun t' => (cE c kp n a).bind fun a' => (cE c kp n b).map fun b' => .ite t' a' b'
    | .Tuple es _ _ => (cL c true n es).map .tup
    | .List es _ => (cL c true n es).map .lst
    | .Dict ks vs _ => if ks.isEmpty || !decide (ks.length ≤ 15) then none else (cP c n ks vs).map .dct
    | .Subscript a (.Slice lo hi none _) _ => (cE c false n a).bind fun a' => (cO c n lo).bind fun l => (cO c n hi).map fun h => .slc a' l h
    | .Subscript a (.Slice none none (some s) _) _ => if isMinusOne s then (cE c false n a).map .rev else none
    | .Subscript a k _ => match k with
      | .Slice _ _ _ _ => none
      | k => (cE c false n a).bind fun a' => (cE c false n k).map fun k' => .idx a' k'
    | .Call (.Name f _) args kws _ => if !c.isGl f || decide (f = ("__debug__" : Str)) then none else
      if c.fns.contains f then
        (cA c n f 0 args).bind fun es => (cK c n kws).bind fun ks => some (.call f (appL es ks.2) ks.1)
      else if !kws.isEmpty || c.glb.contains f then none else
      if f = ("isinstance" : Str) then (match args with
        | [a, t] => if notStar a then (cTys c t).bind fun ts => if ts.length ≤ 100 then (cE c false n a).map fun a' => .isi a' ts else none else none
        | _ => none)
      else (cBlt f).bind fun b => match rngArg c f args with
        | some as => (cL c true n as).map fun es => .rng (decide (f = ("tuple" : Str))) es
        | none => if args.isEmpty then none else (cL c false n args).map fun es => .blt b es
    | .Call (.Attribute o m ap) args [] p => if !baseOk o || !(ap.endLine == p.line) || !decide (args.length < 29) then none else match cMut m with
      | some mm => (cR c n o).bind fun q => (cL c true n args).map fun es => .mut mm q.1 q.2 es
      | none => if args.isEmpty then none else (cMth m).bind fun mm => (cE c false n o).bind fun o' => (cL c false n args).map fun es => .mth mm o' es
    | .ListComp elt gens sc _ => match gens with
      | [⟨tg, it, ifs, 0⟩] =>
        let c' := c.into sc
        if !blkC c.N c.sc sc (ownOf c.N sc) then none else
        (cI c n tg it).bind fun it' => (cT c' n tg).bind fun t => (cF c' n ifs).bind fun cond => (cE c' true n elt).bind fun e' => if (tgtIx t).all ((ownOf c.N sc).map fun p => p.2).contains then some (.lc t it' cond e' ((ownOf c.N sc).map fun p => p.2)) else none
      | _ => none
    | _ => none
/-- the rest of an and, an or -/
def cBo (c : Cc) (op : BoolOp) : Nat → List Expr → Pos → Option CE
  | 0, _, _ => none
  | _ + 1, [], _ => none
  | n + 1, [a], _ => cE c false n a
  | n + 1, a :: b :: r, p => (cE c false n a).bind fun a' => (cBo c op n (b :: r) p).map fun b' => match op with
      | .And => .and a' b'
      | .Or => .or a' b'
def cL (c : Cc) (kp : Bool) : Nat → List Expr → Option CL
  | 0, _ => none
  | _ + 1, [] => some .nil
  | n + 1, e :: es => if notStar e then (cE c kp n e).bind fun e' => (cL c kp n es).map fun es' => .cons e' es' else none
/-- the arguments of a def of one's own, from the j-th on -/
def cA (c : Cc) : Nat → Str → Nat → List Expr → Option CL
  | 0, _, _, _ => none
  | _ + 1, _, _, [] => some .nil
  | n + 1, f, j, e :: es => if notStar e then (cG c n ((c.muts f).contains j) e).bind fun e' => (cA c n f (j + 1) es).map fun es' => .cons e' es' else none
/-- an argument; ld: it is lent -/
def cG (c : Cc) : Nat → Bool → Expr → Option CE
  | 0, _, _ => none
  | n + 1, ld, e => match lendOf c ld e with
    | some i => some (.lend i)
    | none => cE c true n e
/-- a comprehension's test -/
def cF (c : Cc) : Nat → List Expr → Option CE
  | 0, _ => none
  | _ + 1, [] => some (.con (.bl true))
  | n + 1, [i] => cE c false n i
  | _ + 1, _ => none
def cK (c : Cc) : Nat → List Keyword → Option (List Str × CL)
  | 0, _ => none
  | _ + 1, [] => some ([], .nil)
  | n + 1, ⟨some x, e, _⟩ :: r => if notStar e then (cE c true n e).bind fun e' => (cK c n r).map fun q => (x :: q.1, .cons e' q.2) else none
  | _ + 1, _ => none
def cP (c : Cc) : Nat → List (Option Expr) → List Expr → Option CP
  | 0, _, _ => none
  | _ + 1, [], [] => some .nil
  | n + 1, some k :: ks, v :: vs => (cE c true n k).bind fun k' => (cE c true n v).bind fun v' => (cP c n ks vs).map fun ps => .cons k' v' ps
  | _ + 1, _, _ => none
def cO (c : Cc) : Nat → Option Expr → Option CO
  | 0, _ => none
  | _ + 1, none => some .non
  | n + 1, some e => (cE c false n e).map .som
/-- a place: the root's slot, the keys behind it -/
def cR (c : Cc) : Nat → Expr → Option (Nat × CL)
  | 0, _ => none
  | _ + 1, .Name x _ => if x = ("__debug__" : Str) ∨ x = ("__classdict__" : Str) ∨ x = ("__name__" : Str) then none else (c.slot x).map fun i => (i, .nil)
  | n + 1, .Subscript o k _ => match k with
    | .Slice _ _ _ _ => none
    | k => (cR c n o).bind fun p => (cE c false n k).map fun k' => (p.1, appL p.2 (.cons k' .nil))
  | _ + 1, _ => none
/-- what is walked by the target tg -/
def cI (c : Cc) : Nat → Expr → Expr → Option CI
  | 0, _, _ => none
  | n + 1, tg, .Call (.Name f p) args [] q => match iterArg c f tg args with
      | some b => (cL c true n args).map fun es => .blt b es
      | none => (cE c true n (.Call (.Name f p) args [] q)).map .of
  | n + 1, _, e => (cE c true n e).map .of
end

/-! ### statements -/
def isName : Expr → Option Str
  | .Name x _ => some x
  | _ => none
def isDoc : Expr → Bool
  | .Constant (.str _) _ _ => true
  | _ => false
/-- a, b = x, y with names alone -/
def parOf (c : Cc) (ts : List Expr) : Option (List (Nat × Bool)) := ts.mapM fun t => (isName t).bind fun x => (c.loc x).map fun i => (i, c.own.contains i)
mutual
def cS (c : Cc) : Nat → Stmt → CS
  | 0, _ => .nev
  | n + 1, s => match s with
    | .Assign [t] e _ => (match t with
      | .Name x _ => (match c.loc x with
        | some i => (match cE c true 60 e with
            | some e' => if notComp e || isLc e then (if c.own.contains i then .asgO i e' else .asg (.nm i) e') else .nev
            | none => .nev)
        | none => .nev)
      | .Tuple ts k p => (match e with
        | .Tuple es _ _ => if ts.length = es.length ∧ ts.length ≤ 1000 ∧ (swK c.sc ts es).isSome = true then (match parOf c ts, cL c true 60 es with
          | some own, some es' => .par own es'
          | _, _ => .nev) else .nev
        | e => if !notComp e then .nev else (match cT c 60 (.Tuple ts k p), cE c true 60 e with
          | some t', some e' => .asg t' e'
          | _, _ => .nev))
      | .Subscript o k _ => (match k with
        | .Slice _ _ _ _ => .nev
        | k => (match cR c 60 o, cE c false 60 k, cE c true 60 e with
          | some p, some k', some e' => .put p.1 p.2 k' e'
          | _, _, _ => .nev))
      | _ => .nev)
    | .AugAssign (.Name x _) op e _ => (match c.loc x, cOp op, cE c false 60 e with
      | some i, some o, some e' => .aug i o e'
      | _, _, _ => .nev)
    | .Expr e _ => if isDoc e then .pas else if !notComp e then .nev else (match cE c false 60 e with
      | some e' => .exp e'
      | none => .nev)
    | .Return (some e) _ => (match isName e with
      | some x => (match c.slot x with
        | some i => if c.own.contains i ∧ x ≠ ("__debug__" : Str) ∧ x ≠ ("__classdict__" : Str) then .retO i else (match cE c true 60 e with
          | some e' => .ret e'
          | none => .nev)
        | none => (match cE c true 60 e with
          | some e' => .ret e'
          | none => .nev))
      | none => (match cE c true 60 e with
        | some e' => .ret e'
        | none => .nev))
    | .Return none _ => .ret (.con .non)
    | .If t a b _ => (match cE c false 60 t with
      | some t' => .ifs t' (cB c n a) (cB c n b)
      | none => .nev)
    | .While t b [] _ => (match cE c false 60 t with
      | some t' => .whl t' (cB c n b)
      | none => .nev)
    | .For tg it b [] _ => (match cI c 60 tg it, cT c 60 tg with
      | some it', some t' => .fo t' it' (cB c n b)
      | _, _ => .nev)
    | .Break _ => .brk
    | .Continue _ => .cnt
    | .Pass _ => .pas
    | _ => .nev
def cB (c : Cc) : Nat → List Stmt → CB
  | 0, _ => .cons .nev .nil
  | _ + 1, [] => .nil
  | n + 1, s :: b => .cons (cS c n s) (cB c n b)
end

/-! ### a module's defs -/
structure Hint where
  name : Str
  /-- all names by slot, the parameters first -/
  N : List Str
  /-- names whose objects are changed in place -/
  own : List Str
  /-- parameters that are changed -/
  muts : List Nat
def mutsOf (hs : List Hint) (f : Str) : List Nat := match hs.find? fun h => decide (h.name = f) with
  | some h => h.muts
  | none => []
def cFn (hs : List Hint) (glb : List Str) (h : Hint) (st : Stmt) : Fn :=
  let c : Cc := ⟨h.N, defScope st, h.own.filterMap (ixOf h.N), mutsOf hs, hs.map (·.name), glb⟩
  ⟨(defArgs st).args.map (·.arg), h.N.length, cB c 60 (defBody st)⟩
end EV

set_option Elab.async false
set_option linter.all false
set_option maxRecDepth 100000
set_option maxHeartbeats 1000000
/-! EVb: how the arguments of a plain def are bound (own work). -/
namespace EV
open PySem PySem.Spec PyProof.Rows L2
structure PlainFd (fd : FuncData) (ps : List Str) : Prop where
  po : fd.params.posonlyargs = []
  ar : fd.params.args.map (·.arg) = ps
  va : fd.params.vararg = none
  ko : fd.params.kwonlyargs = []
  kw : fd.params.kwarg = none
  df : fd.defaults = .none
theorem forIn_yield {α β : Type} {f : α → β → Sem (ForInStep β)} (g : β → α → β) (P : List α → β → Prop) (step : ∀ x r b, P (x :: r) b → f x b = pure (.yield (g b x)) ∧ P r (g b x)) :
    ∀ (l : List α) (b : β), P l b → forIn l b f = (pure (l.foldl g b) : Sem β)
  | [], b, _ => by rw [List.forIn_nil]; rfl
  | x :: r, b, h => by
    obtain ⟨h1, h2⟩ := step x r b h
    rw [List.forIn_cons, h1, pure_bind]
    exact forIn_yield g P step r (g b x) h2
theorem lookup_off {p : Str} : ∀ {S : List (Str × Value)}, p ∉ S.map (·.1) → S.lookup p = none
  | [], _ => rfl
  | (q, v) :: S, h => by
    have h1 : ¬ p = q ∧ p ∉ S.map (·.1) := by
      rw [List.map_cons, List.mem_cons] at h
      exact ⟨fun z => h (.inl z), fun z => h (.inr z)⟩
    have hb : (p == q) = false := beq_eq_false_iff_ne.mpr h1.1
    rw [List.lookup_cons, hb]
    exact lookup_off h1.2
theorem fold_snd : ∀ (l : List (Str × Value)) (S e : List (Str × Value)), l.foldl (fun (b : List (Str × Value) × List (Str × Value)) x => (b.1 ++ [(x.1, x.2)], b.2)) (S, e) = (S ++ l, e)
  | [], S, e => by simp
  | x :: l, S, e => by
    rw [List.foldl_cons, fold_snd l]
    simp
theorem mapM_some {S : List (Str × Value)} : ∀ {ps : List Str} {zs : List Value}, ps.mapM (fun p => S.lookup p) = some zs → (∀ p ∈ ps, (S.lookup p).isNone = false) ∧ (ps.filterMap fun n => (S.lookup n).map fun v => (n, v)) = ps.zip zs
  | [], zs, h => ⟨fun p hp => by simp at hp, rfl⟩
  | p :: ps, zs, h => by
    rw [List.mapM_cons] at h
    cases e : S.lookup p with
    | none => rw [e] at h; cases h
    | some v =>
      rw [e] at h
      cases e2 : ps.mapM (fun p => S.lookup p) with
      | none => rw [e2] at h; cases h
      | some vs =>
        rw [e2] at h
        have h : some (v :: vs) = some zs := h
        cases h
        obtain ⟨h1, h2⟩ := mapM_some e2
        refine ⟨fun q hq => ?_, ?_⟩
        · rcases List.mem_cons.mp hq with rfl | hq
          · rw [e]; rfl
          · exact h1 q hq
        · rw [List.filterMap_cons, e, List.zip_cons_cons]
          show (p, v) :: _ = _
          rw [h2]
/-- positional values us, keywords ks with values ws: zs are the values in the parameters' order -/
theorem bind_gen {fd : FuncData} {ps ks : List Str} {us ws zs : List Value} (h : PlainFd fd ps) (hl : us.length ≤ ps.length) (nd : ((ps.zip us).map (·.1) ++ (ks.zip ws).map (·.1)).Nodup) (sub : ∀ k ∈ (ks.zip ws).map (·.1), k ∈ ps)
    (hz : ps.mapM (fun p => (ps.zip us ++ ks.zip ws).lookup p) = some zs) : bindArgs fd ⟨us, ks.zip ws⟩ = pure (ps.zip zs) := by
  obtain ⟨hS, hF⟩ := mapM_some hz
  have miss : (ps.filter fun n => ((ps.zip us ++ ks.zip ws).lookup n).isNone) = [] := List.filter_eq_nil_iff.mpr fun p hp => by rw [hS p hp]; decide
  have e0 : seqItems? Value.none = (pure none : Sem _) := rfl
  have gt : ¬ us.length > ps.length := by omega
  unfold bindArgs
  simp only [h.po, h.ar, h.va, h.ko, h.kw, h.df, List.map_nil, List.nil_append, List.append_nil]
  rw [forIn_yield (fun (b : List (Str × Value) × List (Str × Value)) x => (b.1 ++ [(x.1, x.2)], b.2)) (fun r b => (b.1.map (·.1) ++ r.map (·.1)).Nodup ∧ ∀ k ∈ r.map (·.1), k ∈ ps)
    (fun x r b hb => ?_) (ks.zip ws) (ps.zip us, []) ⟨nd, sub⟩, fold_snd]
  · simp only [e0, pure_bind, Option.getD_none, List.drop_nil, List.length_nil, Nat.sub_zero, List.take_length, List.drop_length, List.zip_nil_left, List.zip_nil_right, List.forIn_nil, List.isEmpty_nil, Bool.not_true, Bool.false_eq_true, if_false,
      decide_eq_false gt, Bool.false_and, miss]
    rw [← hF]
  · have hx : x.1 ∈ ps := hb.2 x.1 (by simp)
    have c1 : (ps.contains x.1 || ([] : List Str).contains x.1) = true := by rw [List.contains_iff_mem.mpr hx]; rfl
    have off : x.1 ∉ b.1.map (·.1) := fun z => (List.nodup_append.mp hb.1).2.2 x.1 z x.1 (by simp) rfl
    refine ⟨?_, ?_, fun k hk => hb.2 k (by rw [List.map_cons]; exact List.mem_cons_of_mem _ hk)⟩
    · rw [if_pos c1, lookup_off off]
      rfl
    · rw [List.map_append, List.append_assoc]
      exact hb.1
end EV

set_option Elab.async false
set_option linter.all false
set_option maxRecDepth 100000
set_option maxHeartbeats 1000000
/-! EVt: tuples that are told with their object (which has no dict of its own), own work over the hand layer's rules. -/
namespace EV
open PySem PySem.Spec PyProof.Rows L2
abbrev Frg := PySem.W.Frag
/-- a tuple told for good, its object without a dict -/
def TR (K : Frg) (H : Hp) (a : Addr) (xs : List V) : Prop :=
  (∃ ob, H a = some (.frz ob (.tup xs)) ∧ ob.dict = none) ∨
    ∃ (ob : Obj) (us : List Value) (m : Nat), K.lookup a = some ob ∧ ob.cls = .type "tuple" ∧ ob.dict = none ∧ ob.data = .seq us.toArray m ∧ xs.length ≤ sizeLine ∧ Vals xs us
theorem TR.sq {K : Frg} {H : Hp} {a : Addr} {xs : List V} (h : TR K H a xs) : SqT K H a xs := by
  rcases h with ⟨ob, h, _⟩ | ⟨ob, us, m, h1, h2, _, h3, h4, h5⟩
  · exact .inl (.inr ⟨ob, h⟩)
  · exact .inr ⟨ob, us.toArray, m, h1, h2, h3, by rw [List.size_toArray, ← h5.length]; exact h4, by simpa using h5⟩
def tob (us : List Value) : Obj := { cls := .type "tuple", data := .seq us.toArray }
abbrev tHO (us : List Value) (ys : List V) : HO := .frz (tob us) (.tup ys)
section
variable {X : Cx} {pins : List (Addr × Obj)} {σ : L2.St} {H : Hp} {s : Shared}
/-- the object of a tuple that is told -/
theorem TR.obj {a : Addr} {xs : List V} (I : Inv X pins σ H s) (h : TR X.K H a xs) : ∃ ob, s.heap.get? a = some ob ∧ ob.cls = .type "tuple" ∧ ob.dict = none := by
  rcases h with ⟨ob, h, hd⟩ | ⟨ob, us, m, h1, h2, hd, _⟩
  · obtain ⟨e, _, _, _, ob', e', c, _⟩ := I.hok a _ h
    rw [e] at e'
    cases e'
    exact ⟨ob, e, c, hd⟩
  · exact ⟨ob, I.kIn a ob h1, h2, hd⟩
theorem tup_laid {us : List Value} {ys : List V} {t : Nat} (I : Inv X pins σ H s) (r : Vals ys us) (hz : ys.length ≤ sizeLine) :
    Inv X pins σ (upd H s.heap.objs.size (tHO us ys)) { s with heap := s.heap.push (tob us), toks := t } :=
  I.laid (fun b ob e => Heap.get?_push_of_some _ e) (Nat.le_refl _) ⟨Heap.get?_push_size _ rfl, hz, us, r, IsTup.new _ _⟩
/-- what a rule that lays a tuple is to give -/
def NewT (H : Hp) (ys : List V) (Q : VK) : Prop := ∀ (p : Addr) (ob : Obj), H p = none → ob.dict = none → Q (.ref p) (upd H p (.frz ob (.tup ys)))
theorem NewT.fin {us : List Value} {ys : List V} {t : Nat} {Q : VK} (q : NewT H ys Q) (I : Inv X pins σ H s) (r : Vals ys us) (hz : ys.length ≤ sizeLine) :
    EP X pins σ Q (.ref s.heap.objs.size) { s with heap := s.heap.push (tob us), toks := t } :=
  ⟨.ref s.heap.objs.size, _, tup_laid I r hz, rfl, q _ (tob us) I.fresh rfl⟩
end
section
variable {X : Cx} {es : List Expr} {t : TA} {pos : Pos}
theorem peTup {k : Nat} (h : PA X es t) : PE X (.Tuple es k pos) (fun σ H Q => t σ H fun xs H1 => xs.length ≤ sizeLine ∧ NewT H1 xs Q) := by
  refine ⟨fun pins s σ H Q I hq => wpAny_Tuple_spliced (thn (h.run pos pins s σ H _ I hq) fun us s1 hh => ?_)⟩
  obtain ⟨xs, H1, I1, r, z, q⟩ := hh
  exact ⟨by rw [← r.length]; exact z, q.fin (t := s1.toks) I1 r z⟩
theorem opCatT : OpR X (binaryOp .Add) (fun x y H Q => ∃ a b xs ys, x = .ref a ∧ y = .ref b ∧ SqT X.K H a xs ∧ SqT X.K H b ys ∧ xs.length + ys.length ≤ sizeLine ∧
    (xs = [] → Q (.ref b) H) ∧ (xs ≠ [] → ys = [] → Q (.ref a) H) ∧ (xs ≠ [] → ys ≠ [] → NewT H (xs ++ ys) Q)) := by
  intro pins s σ H x y v u Q I rx ry hh
  obtain ⟨a, b, xs, ys, rfl, rfl, ha, hb, hz, q0, q1, q2⟩ := hh
  by_cases hx : xs = []
  · exact op_catA pins s σ H _ _ v u Q I rx ry ⟨a, b, xs, ys, rfl, rfl, ha, hb, hz, q0, q1, fun z => absurd hx z⟩
  · by_cases hy : ys = []
    · exact op_catA pins s σ H _ _ v u Q I rx ry ⟨a, b, xs, ys, rfl, rfl, ha, hb, hz, q0, q1, fun _ z => absurd hy z⟩
    · cases rx
      cases ry
      obtain ⟨us, r, pa, _⟩ := I.tuple ha
      obtain ⟨ws, r', pb, _⟩ := I.tuple hb
      have hl : (xs ++ ys).length ≤ sizeLine := by rw [List.length_append]; exact hz
      exact HT.cat_tup pa pb (fun z => hx (r.nil_iff.mp z)) (fun z => absurd (r'.nil_iff.mp z) hy) (fun _ => (q2 hx hy).fin (t := s.toks) I (r.append r') hl)
        (by rw [← r.length, ← r'.length]; exact hz)
theorem slTup : L2.SlR X (fun x lo hi H Q => ∃ a xs, x = .ref a ∧ SqT X.K H a xs ∧
    (HT.sIx xs.length 0 lo = 0 ∧ HT.sIx xs.length xs.length hi = xs.length → Q (.ref a) H) ∧ (¬ (HT.sIx xs.length 0 lo = 0 ∧ HT.sIx xs.length xs.length hi = xs.length) → NewT H (cutV xs lo hi) Q)) := by
  intro pins s σ H x v vl vu lo hi sl Q I rx hs pl pu hh
  obtain ⟨a, xs, rfl, hx, q1, q2⟩ := hh
  by_cases hw : HT.sIx xs.length 0 lo = 0 ∧ HT.sIx xs.length xs.length hi = xs.length
  · exact sl_tupA pins s σ H _ v vl vu lo hi sl Q I rx hs pl pu ⟨a, xs, rfl, hx, q1, fun z => absurd hw z⟩
  · cases rx
    obtain ⟨us, r, ht, hz⟩ := I.tuple hx
    have hl : us.toArray.size = xs.length := by rw [List.size_toArray, ← r.length]
    refine ⟨"tuple", _, PyProof.Rows.slot_tuple_getitem.lookup, ht.typeIs, HT.getItem_tuple_cut ht hs pl pu (by rw [hl]; exact hw) ?_ (by rw [hl]; exact hz)⟩
    rw [hl]
    exact (q2 hw).fin (t := s.toks) I ((r.drop (HT.sIx xs.length 0 lo)).take (HT.sIx xs.length xs.length hi - HT.sIx xs.length 0 lo)) (Nat.le_trans (cutV_length xs lo hi) hz)
theorem crTuple : CallR X (.type "tuple") (fun xs H Q => ∃ p ys, xs = [.ref p] ∧ ((SqL X.K H p ys ∧ NewT H ys Q) ∨ (SqT X.K H p ys ∧ Q (.ref p) H))) := by
  intro pins s σ H xs us Q I r hh
  obtain ⟨p, ys, rfl, hh⟩ := hh
  rcases hh with ⟨hl, q⟩ | hh
  · obtain ⟨u, rfl, rp⟩ := vals1 r
    cases rp
    obtain ⟨ws, rw', pl, hz⟩ := I.list hl
    refine call_tuple_list pl.isList (fun h' kp => ?_) (by rw [List.size_toArray, ← rw'.length]; exact hz)
    exact q.fin (t := s.toks) (I.kept (t' := s.toks) kp : Inv X pins σ H { s with heap := h', toks := s.toks }) rw' hz
  · exact call_tuple_of pins s σ H _ us Q I r ⟨p, ys, rfl, .inr hh⟩
theorem peTupRg {e : Expr} {te : L2.St → Hp → (Int → Int → Hp → Prop) → Prop} {p : Pos} (hc : X.calm = true) (hg : Gl X "tuple") (hm : X.mg "tuple" = none) (he : PRg X e te) (na : starEach [e] X.env = (false, eval e X.env) :: starEach [] X.env) :
    PE X (.Call (.Name "tuple" p) [e] [] pos) (fun σ H Q => te σ H fun a b H1 => RgOk a b ∧ NewT H1 (rgV a b) Q) := by
  refine ⟨fun pins s σ H Q I h => Call_ (ld_blt I hg hm boot_tuple (PyProof.Rows.callWith_type1 (args_cons (thn (he pins s σ H _ I h) fun x s1 hh => args_nil ?_) na) na))⟩
  obtain ⟨r, a, b, k1, k2, k3, H1, rfl, hr, I1, ⟨b1, b2, b3, b4, b5⟩, q⟩ := hh
  refine call_tuple_range (n := (b - a).toNat) (I1.ok.hd hc) hr (small_one b1 b2 b3 b4) (rangeSize_nat a b) b5 fun h' tk acc hk hi => ?_
  have I2 : Inv X pins σ H1 { s1 with heap := h', toks := tk } := I1.kept hk
  have := q.fin (t := tk) I2 (vals_rg hi) (by rw [rgV_length, sizeLine_eq]; omega)
  simpa [tob] using this
end
end EV

set_option Elab.async false
set_option linter.all false
set_option maxRecDepth 100000
/-! EV3: how data and owned objects lie in the abstract heap (own work). -/
namespace EV
open PySem PySem.Spec PyProof.Rows L2

/-- a list of the written part -/
def KL (K : Frg) (a : Addr) (xs : List V) : Prop :=
  ∃ (us : List Value) (m : Nat), K.lookup a = some { cls := .type "list", data := .seq us.toArray m } ∧ xs.length ≤ sizeLine ∧ Vals xs us
/-- a dict of the written part -/
def KD (P : Program) (w : World) (K : Frg) (a : Addr) (kvs : List (Key × V)) : Prop :=
  (a == sysModules) = false ∧ kvs.length ≤ sizeLine ∧ ∃ (ob : Obj) (es : Array DictEntry) (ep : Nat) (vs : List (Key × Value)),
    K.lookup a = some ob ∧ ob.ExactDict ∧ ob.data = .dict es ep ∧ KeysOf (mixKind P w) es ∧ Pairs (mixKind P w) es.toList vs ∧ (vs.map (·.1)).Nodup ∧ KV kvs vs
def LR (st : Bool) (K : Frg) (H : Hp) (a : Addr) (xs : List V) : Prop :=
  (st = false ∧ H a = some (.lst xs)) ∨ (∃ ob, H a = some (.frz ob (.lst xs))) ∨ KL K a xs
def DR (st : Bool) (P : Program) (w : World) (K : Frg) (H : Hp) (a : Addr) (kvs : List (Key × V)) : Prop :=
  (st = false ∧ H a = some (.dK kvs)) ∨ (∃ ob, H a = some (.frz ob (.dK kvs))) ∨ KD P w K a kvs
section
variable (st : Bool) (P : Program) (w : World) (K : Frg) (H : Hp)
mutual
inductive Rl : V → D → Prop
  | non : Rl .non .none
  | bl (b : Bool) : Rl (.bl b) (.bool b)
  | int (i : Int) : Rl (.int i) (.int i)
  | str (x : Str) : Rl (.str x) (.str x)
  | lst {a : Addr} {vs : List V} {ds : List D} : LR st K H a vs → RlA vs ds → Rl (.ref a) (.list ds)
  | tup {a : Addr} {vs : List V} {ds : List D} : TR K H a vs → RlA vs ds → Rl (.ref a) (.tuple ds)
  | dct {a : Addr} {kvs : List (Key × V)} {kds : List (D × D)} : DR st P w K H a kvs → RlK kvs kds → Rl (.ref a) (.dict kds)
inductive RlA : List V → List D → Prop
  | nil : RlA [] []
  | cons {v : V} {d : D} {vs : List V} {ds : List D} : Rl v d → RlA vs ds → RlA (v :: vs) (d :: ds)
inductive RlK : List (Key × V) → List (D × D) → Prop
  | nil : RlK [] []
  | cons {k : Key} {v : V} {d : D} {kvs : List (Key × V)} {kds : List (D × D)} : Rl v d → RlK kvs kds → RlK ((k, v) :: kvs) ((kD k, d) :: kds)
end
mutual
inductive Ow : V → O → List Addr → Prop
  | imm {v : V} {d : D} : Rl true P w K H v d → Ow v (.imm d) []
  | lst {a : Addr} {vs : List V} {os : List O} {F : List Addr} : H a = some (.lst vs) → Ows vs os F → a ∉ F → Ow (.ref a) (.lst os) (a :: F)
  | dct {a : Addr} {kvs : List (Key × V)} {kos : List (Key × O)} {F : List Addr} : H a = some (.dK kvs) → Owk kvs kos F → a ∉ F → (kos.map (·.1)).Nodup → Ow (.ref a) (.dct kos) (a :: F)
inductive Ows : List V → List O → List Addr → Prop
  | nil : Ows [] [] []
  | cons {v : V} {o : O} {vs : List V} {os : List O} {F G : List Addr} : Ow v o F → Ows vs os G → (∀ a ∈ F, a ∉ G) → Ows (v :: vs) (o :: os) (F ++ G)
inductive Owk : List (Key × V) → List (Key × O) → List Addr → Prop
  | nil : Owk [] [] []
  | cons {k : Key} {v : V} {o : O} {kvs : List (Key × V)} {kos : List (Key × O)} {F G : List Addr} : Ow v o F → Owk kvs kos G → (∀ a ∈ F, a ∉ G) → Owk ((k, v) :: kvs) ((k, o) :: kos) (F ++ G)
end
end
/-- what was told for good is told still -/
def Stb (H H' : Hp) : Prop := (∀ b xs, H b = some (.tup xs) → H' b = some (.tup xs)) ∧ ∀ b o u, H b = some (.frz o u) → H' b = some (.frz o u)
theorem Stb.refl (H : Hp) : Stb H H := ⟨fun _ _ h => h, fun _ _ _ h => h⟩
theorem Stb.trans {H H1 H2 : Hp} (a : Stb H H1) (b : Stb H1 H2) : Stb H H2 := ⟨fun c xs h => b.1 c xs (a.1 c xs h), fun c o u h => b.2 c o u (a.2 c o u h)⟩
theorem Stb.of_same {H H' : Hp} (s : Same H H') : Stb H H' := ⟨fun b xs h => s b _ h, fun b o u h => s b _ h⟩
/-- all but what stands at F is kept -/
def But (F : List Addr) (H H' : Hp) : Prop := ∀ b, b ∉ F → H b ≠ none → H' b = H b
theorem But.refl (F : List Addr) (H : Hp) : But F H H := fun _ _ _ => rfl
theorem But.nil_same {H H' : Hp} (h : But [] H H') : Same H H' := fun b o e => by
  rw [h b (by simp) (by rw [e]; simp)]; exact e
theorem Same.but {H H' : Hp} (s : Same H H') (F : List Addr) : But F H H' := fun b _ hn => by
  cases e : H b with
  | none => exact absurd e hn
  | some u => exact s b u e

variable {st : Bool} {P : Program} {w : World} {K : Frg} {H H' : Hp}
theorem LR.sq {a : Addr} {xs : List V} (h : LR st K H a xs) : SqL K H a xs := by
  rcases h with ⟨_, h⟩ | ⟨o, h⟩ | h
  · exact .inl (.inl h)
  · exact .inl (.inr ⟨o, h⟩)
  · obtain ⟨us, m, h1, h2, h3⟩ := h
    exact .inr ⟨_, us.toArray, m, h1, rfl, rfl, rfl, by rw [List.size_toArray, ← h3.length]; exact h2, by simpa using h3⟩
theorem LR.stb {a : Addr} {xs : List V} (h : LR true K H a xs) (s : Stb H H') : LR true K H' a xs := by
  rcases h with ⟨e, _⟩ | ⟨o, h⟩ | h
  · cases e
  · exact .inr (.inl ⟨o, s.2 _ _ _ h⟩)
  · exact .inr (.inr h)
theorem LR.weak {a : Addr} {xs : List V} (h : LR st K H a xs) : LR false K H a xs := by
  rcases h with ⟨_, h⟩ | h
  · exact .inl ⟨rfl, h⟩
  · exact .inr h
theorem LR.same {a : Addr} {xs : List V} (h : LR st K H a xs) (s : Same H H') : LR st K H' a xs := by
  rcases h with ⟨e, h⟩ | ⟨o, h⟩ | h
  · exact .inl ⟨e, s _ _ h⟩
  · exact .inr (.inl ⟨o, s _ _ h⟩)
  · exact .inr (.inr h)
theorem DR.stb {a : Addr} {xs : List (Key × V)} (h : DR true P w K H a xs) (s : Stb H H') : DR true P w K H' a xs := by
  rcases h with ⟨e, _⟩ | ⟨o, h⟩ | h
  · cases e
  · exact .inr (.inl ⟨o, s.2 _ _ _ h⟩)
  · exact .inr (.inr h)
theorem DR.weak {a : Addr} {xs : List (Key × V)} (h : DR st P w K H a xs) : DR false P w K H a xs := by
  rcases h with ⟨_, h⟩ | h
  · exact .inl ⟨rfl, h⟩
  · exact .inr h
theorem DR.same {a : Addr} {xs : List (Key × V)} (h : DR st P w K H a xs) (s : Same H H') : DR st P w K H' a xs := by
  rcases h with ⟨e, h⟩ | ⟨o, h⟩ | h
  · exact .inl ⟨e, s _ _ h⟩
  · exact .inr (.inl ⟨o, s _ _ h⟩)
  · exact .inr (.inr h)
theorem TR.stb {a : Addr} {xs : List V} (h : TR K H a xs) (s : Stb H H') : TR K H' a xs := by
  rcases h with ⟨o, h, hd⟩ | h
  · exact .inl ⟨o, s.2 _ _ _ h, hd⟩
  · exact .inr h

mutual
theorem Rl.stb (s : Stb H H') : ∀ (d : D) {v : V}, Rl true P w K H v d → Rl true P w K H' v d
  | .none, _, h => by cases h; exact .non
  | .bool _, _, h => by cases h; exact .bl _
  | .int _, _, h => by cases h; exact .int _
  | .str _, _, h => by cases h; exact .str _
  | .list ds, _, h => by
    cases h with
    | lst h1 h2 => exact .lst (h1.stb s) (RlA.stb s ds h2)
  | .tuple ds, _, h => by
    cases h with
    | tup h1 h2 => exact .tup (h1.stb s) (RlA.stb s ds h2)
  | .dict kds, _, h => by
    cases h with
    | dct h1 h2 => exact .dct (h1.stb s) (RlK.stb s kds h2)
theorem RlA.stb (s : Stb H H') : ∀ (ds : List D) {vs : List V}, RlA true P w K H vs ds → RlA true P w K H' vs ds
  | [], _, h => by cases h; exact .nil
  | d :: ds, _, h => by
    cases h with
    | cons h1 h2 => exact .cons (Rl.stb s d h1) (RlA.stb s ds h2)
theorem RlK.stb (s : Stb H H') : ∀ (kds : List (D × D)) {kvs : List (Key × V)}, RlK true P w K H kvs kds → RlK true P w K H' kvs kds
  | [], _, h => by cases h; exact .nil
  | (_, d) :: kds, _, h => by
    cases h with
    | cons h1 h2 => exact .cons (Rl.stb s d h1) (RlK.stb s kds h2)
end
mutual
theorem Rl.same (s : Same H H') : ∀ (d : D) {v : V}, Rl st P w K H v d → Rl st P w K H' v d
  | .none, _, h => by cases h; exact .non
  | .bool _, _, h => by cases h; exact .bl _
  | .int _, _, h => by cases h; exact .int _
  | .str _, _, h => by cases h; exact .str _
  | .list ds, _, h => by
    cases h with
    | lst h1 h2 => exact .lst (h1.same s) (RlA.same s ds h2)
  | .tuple ds, _, h => by
    cases h with
    | tup h1 h2 => exact .tup (h1.stb (Stb.of_same s)) (RlA.same s ds h2)
  | .dict kds, _, h => by
    cases h with
    | dct h1 h2 => exact .dct (h1.same s) (RlK.same s kds h2)
theorem RlA.same (s : Same H H') : ∀ (ds : List D) {vs : List V}, RlA st P w K H vs ds → RlA st P w K H' vs ds
  | [], _, h => by cases h; exact .nil
  | d :: ds, _, h => by
    cases h with
    | cons h1 h2 => exact .cons (Rl.same s d h1) (RlA.same s ds h2)
theorem RlK.same (s : Same H H') : ∀ (kds : List (D × D)) {kvs : List (Key × V)}, RlK st P w K H kvs kds → RlK st P w K H' kvs kds
  | [], _, h => by cases h; exact .nil
  | (_, d) :: kds, _, h => by
    cases h with
    | cons h1 h2 => exact .cons (Rl.same s d h1) (RlK.same s kds h2)
end
mutual
theorem Rl.weak : ∀ (d : D) {v : V}, Rl st P w K H v d → Rl false P w K H v d
  | .none, _, h => by cases h; exact .non
  | .bool _, _, h => by cases h; exact .bl _
  | .int _, _, h => by cases h; exact .int _
  | .str _, _, h => by cases h; exact .str _
  | .list ds, _, h => by
    cases h with
    | lst h1 h2 => exact .lst h1.weak (RlA.weak ds h2)
  | .tuple ds, _, h => by
    cases h with
    | tup h1 h2 => exact .tup h1 (RlA.weak ds h2)
  | .dict kds, _, h => by
    cases h with
    | dct h1 h2 => exact .dct h1.weak (RlK.weak kds h2)
theorem RlA.weak : ∀ (ds : List D) {vs : List V}, RlA st P w K H vs ds → RlA false P w K H vs ds
  | [], _, h => by cases h; exact .nil
  | d :: ds, _, h => by
    cases h with
    | cons h1 h2 => exact .cons (Rl.weak d h1) (RlA.weak ds h2)
theorem RlK.weak : ∀ (kds : List (D × D)) {kvs : List (Key × V)}, RlK st P w K H kvs kds → RlK false P w K H kvs kds
  | [], _, h => by cases h; exact .nil
  | (_, d) :: kds, _, h => by
    cases h with
    | cons h1 h2 => exact .cons (Rl.weak d h1) (RlK.weak kds h2)
end
mutual
theorem Rl.dp : ∀ (d : D) {v : V}, Rl st P w K H v d → d.hasDict = false → Dp K H v d
  | .none, _, h, _ => by cases h; exact .non
  | .bool _, _, h, _ => by cases h; exact .bl _
  | .int _, _, h, _ => by cases h; exact .int _
  | .str _, _, h, _ => by cases h; exact .str _
  | .list ds, _, h, e => by
    cases h with
    | lst h1 h2 => exact .lst h1.sq (RlA.dp ds h2 (by simpa [PyData.hasDict] using e))
  | .tuple ds, _, h, e => by
    cases h with
    | tup h1 h2 => exact .tup h1.sq (RlA.dp ds h2 (by simpa [PyData.hasDict] using e))
  | .dict kds, _, h, e => by simp [PyData.hasDict] at e
theorem RlA.dp : ∀ (ds : List D) {vs : List V}, RlA st P w K H vs ds → PyData.hasDictAll ds = false → DpAll K H vs ds
  | [], _, h, _ => by cases h; exact .nil
  | d :: ds, _, h, e => by
    cases h with
    | cons h1 h2 =>
      have e' : d.hasDict = false ∧ PyData.hasDictAll ds = false := by simpa [PyData.hasDictAll] using e
      exact .cons (Rl.dp d h1 e'.1) (RlA.dp ds h2 e'.2)
end
theorem RlA.length : ∀ {vs : List V} {ds : List D}, RlA st P w K H vs ds → vs.length = ds.length
  | _, _, .nil => rfl
  | _, _, .cons _ t => by simp [RlA.length t]
theorem RlA.get : ∀ {vs : List V} {ds : List D} {i : Nat} {d : D}, RlA st P w K H vs ds → ds[i]? = some d → ∃ v, vs[i]? = some v ∧ Rl st P w K H v d
  | _, _, _, _, .nil, e => by simp at e
  | _, _, 0, _, .cons h _, e => by simp at e; subst e; exact ⟨_, rfl, h⟩
  | _, _, i + 1, _, .cons _ t, e => by
    obtain ⟨v, h1, h2⟩ := RlA.get t (i := i) (by simpa using e)
    exact ⟨v, by simpa using h1, h2⟩
theorem RlA.append : ∀ {vs ws : List V} {ds es : List D}, RlA st P w K H vs ds → RlA st P w K H ws es → RlA st P w K H (vs ++ ws) (ds ++ es)
  | _, _, _, _, .nil, s => s
  | _, _, _, _, .cons h t, s => .cons h (RlA.append t s)
theorem RlA.take : ∀ {vs : List V} {ds : List D} (n : Nat), RlA st P w K H vs ds → RlA st P w K H (vs.take n) (ds.take n)
  | _, _, 0, _ => by simp; exact .nil
  | _, _, _ + 1, .nil => .nil
  | _, _, n + 1, .cons h t => .cons h (RlA.take n t)
theorem RlA.drop : ∀ {vs : List V} {ds : List D} (n : Nat), RlA st P w K H vs ds → RlA st P w K H (vs.drop n) (ds.drop n)
  | _, _, 0, h => by simpa using h
  | _, _, _ + 1, .nil => .nil
  | _, _, n + 1, .cons h t => RlA.drop n t
theorem RlA.reverse : ∀ {vs : List V} {ds : List D}, RlA st P w K H vs ds → RlA st P w K H vs.reverse ds.reverse
  | _, _, .nil => .nil
  | _, _, .cons h t => by
    rw [List.reverse_cons, List.reverse_cons]
    exact (RlA.reverse t).append (.cons h .nil)
theorem RlA.rep {vs : List V} {ds : List D} (h : RlA st P w K H vs ds) : ∀ n, RlA st P w K H (List.replicate n vs).flatten (rep n ds)
  | 0 => .nil
  | n + 1 => by
    show RlA st P w K H _ (List.replicate (n + 1) ds).flatten
    rw [List.replicate_succ, List.replicate_succ, List.flatten_cons, List.flatten_cons]
    exact h.append (RlA.rep h n)

/-! ### owned objects -/
mutual
theorem Ow.keep (s : Stb H H') : ∀ (o : O) {v : V} {F : List Addr}, Ow P w K H v o F → (∀ a ∈ F, H' a = H a) → Ow P w K H' v o F
  | .imm d, _, _, h, _ => by
    cases h with
    | imm h => exact .imm (Rl.stb s d h)
  | .lst os, _, _, h, e => by
    cases h with
    | lst h1 h2 h3 => exact .lst ((e _ List.mem_cons_self).trans h1) (Ows.keep s os h2 fun a ha => e a (List.mem_cons_of_mem _ ha)) h3
  | .dct kos, _, _, h, e => by
    cases h with
    | dct h1 h2 h3 h4 => exact .dct ((e _ List.mem_cons_self).trans h1) (Owk.keep s kos h2 fun a ha => e a (List.mem_cons_of_mem _ ha)) h3 h4
theorem Ows.keep (s : Stb H H') : ∀ (os : List O) {vs : List V} {F : List Addr}, Ows P w K H vs os F → (∀ a ∈ F, H' a = H a) → Ows P w K H' vs os F
  | [], _, _, h, _ => by cases h; exact .nil
  | o :: os, _, _, h, e => by
    cases h with
    | cons h1 h2 h3 => exact .cons (Ow.keep s o h1 fun a ha => e a (List.mem_append_left _ ha)) (Ows.keep s os h2 fun a ha => e a (List.mem_append_right _ ha)) h3
theorem Owk.keep (s : Stb H H') : ∀ (kos : List (Key × O)) {kvs : List (Key × V)} {F : List Addr}, Owk P w K H kvs kos F → (∀ a ∈ F, H' a = H a) → Owk P w K H' kvs kos F
  | [], _, _, h, _ => by cases h; exact .nil
  | (_, o) :: kos, _, _, h, e => by
    cases h with
    | cons h1 h2 h3 => exact .cons (Ow.keep s o h1 fun a ha => e a (List.mem_append_left _ ha)) (Owk.keep s kos h2 fun a ha => e a (List.mem_append_right _ ha)) h3
end
/-- what is owned may be written -/
def IsMut (H : Hp) (a : Addr) : Prop := (∃ xs, H a = some (.lst xs)) ∨ ∃ kvs, H a = some (.dK kvs)
mutual
theorem Ow.foot : ∀ (o : O) {v : V} {F : List Addr}, Ow P w K H v o F → ∀ a ∈ F, IsMut H a
  | .imm d, _, _, h, a, ha => by cases h; simp at ha
  | .lst os, _, _, h, a, ha => by
    cases h with
    | lst h1 h2 h3 =>
      rcases List.mem_cons.mp ha with rfl | ha
      · exact .inl ⟨_, h1⟩
      · exact Ows.foot os h2 a ha
  | .dct kos, _, _, h, a, ha => by
    cases h with
    | dct h1 h2 h3 h4 =>
      rcases List.mem_cons.mp ha with rfl | ha
      · exact .inr ⟨_, h1⟩
      · exact Owk.foot kos h2 a ha
theorem Ows.foot : ∀ (os : List O) {vs : List V} {F : List Addr}, Ows P w K H vs os F → ∀ a ∈ F, IsMut H a
  | [], _, _, h, a, ha => by cases h; simp at ha
  | o :: os, _, _, h, a, ha => by
    cases h with
    | cons h1 h2 h3 => exact (List.mem_append.mp ha).elim (Ow.foot o h1 a) (Ows.foot os h2 a)
theorem Owk.foot : ∀ (kos : List (Key × O)) {kvs : List (Key × V)} {F : List Addr}, Owk P w K H kvs kos F → ∀ a ∈ F, IsMut H a
  | [], _, _, h, a, ha => by cases h; simp at ha
  | (_, o) :: kos, _, _, h, a, ha => by
    cases h with
    | cons h1 h2 h3 => exact (List.mem_append.mp ha).elim (Ow.foot o h1 a) (Owk.foot kos h2 a)
end
theorem IsMut.ne {a : Addr} (h : IsMut H a) : H a ≠ none := by
  rcases h with ⟨_, h⟩ | ⟨_, h⟩ <;> rw [h] <;> simp
theorem IsMut.mu {a : Addr} (h : IsMut H a) : Mut (H a) := by
  rcases h with ⟨_, h⟩ | ⟨_, h⟩ <;> rw [h] <;> exact trivial
/-- changing owned things alone keeps what is told for good -/
theorem But.stb {F : List Addr} (h : But F H H') (m : ∀ a ∈ F, IsMut H a) : Stb H H' := by
  refine ⟨fun b xs e => ?_, fun b o u e => ?_⟩
  · rw [h b (fun hb => ?_) (by rw [e]; simp)]
    · exact e
    · rcases m b hb with ⟨_, z⟩ | ⟨_, z⟩ <;> (rw [e] at z; cases z)
  · rw [h b (fun hb => ?_) (by rw [e]; simp)]
    · exact e
    · rcases m b hb with ⟨_, z⟩ | ⟨_, z⟩ <;> (rw [e] at z; cases z)
mutual
theorem Ow.view : ∀ (o : O) {v : V} {F : List Addr}, Ow P w K H v o F → Rl false P w K H v (fz o)
  | .imm d, _, _, h => by
    cases h with
    | imm h => exact Rl.weak d h
  | .lst os, _, _, h => by
    cases h with
    | lst h1 h2 h3 => exact .lst (.inl ⟨rfl, h1⟩) (Ows.view os h2)
  | .dct kos, _, _, h => by
    cases h with
    | dct h1 h2 h3 h4 => exact .dct (.inl ⟨rfl, h1⟩) (Owk.view kos h2)
theorem Ows.view : ∀ (os : List O) {vs : List V} {F : List Addr}, Ows P w K H vs os F → RlA false P w K H vs (fzs os)
  | [], _, _, h => by cases h; exact .nil
  | o :: os, _, _, h => by
    cases h with
    | cons h1 h2 h3 => exact .cons (Ow.view o h1) (Ows.view os h2)
theorem Owk.view : ∀ (kos : List (Key × O)) {kvs : List (Key × V)} {F : List Addr}, Owk P w K H kvs kos F → RlK false P w K H kvs (fzk kos)
  | [], _, _, h => by cases h; exact .nil
  | (_, o) :: kos, _, _, h => by
    cases h with
    | cons h1 h2 h3 => exact .cons (Ow.view o h1) (Owk.view kos h2)
end
theorem upd_but {H : Hp} {a : Addr} {o : HO} {F : List Addr} (h : a ∈ F) : But F H (upd H a o) := fun b hb _ => upd_ne fun e => hb (e ▸ h)
section
variable {X : Cx} {pins : List (Addr × Obj)} {σ : L2.St} {s : Shared}
mutual
/-- what is owned is handed over for good: it stays as it is from now on -/
theorem Ow.freeze : ∀ (o : O) {H : Hp} {v : V} {F : List Addr}, Inv X pins σ H s → Ow X.prog X.w X.K H v o F →
    ∃ H', Inv X pins σ H' s ∧ Rl true X.prog X.w X.K H' v (fz o) ∧ But F H H' ∧ Stb H H' ∧ (∀ a ∈ F, H' a ≠ none) ∧ ∀ b, H b = none → H' b = none
  | .imm d, H, _, _, I, h => by
    cases h with
    | imm h => exact ⟨H, I, h, But.refl _ _, Stb.refl _, fun a ha => by simp at ha, fun _ e => e⟩
  | .lst os, H, _, _, I, h => by
    cases h with
    | @lst a vs _ F h1 h2 h3 =>
      obtain ⟨H1, I1, r, b, st, nn, fr⟩ := Ows.freeze os I h2
      have e1 : H1 a = some (.lst vs) := (b a h3 (by rw [h1]; simp)).trans h1
      obtain ⟨od, I2⟩ := I1.lock e1 trivial
      have st2 : Stb H1 (upd H1 a (.frz od (.lst vs))) := (upd_but (F := [a]) List.mem_cons_self).stb fun c hc => by
        rcases List.mem_singleton.mp hc with rfl
        exact .inl ⟨_, e1⟩
      refine ⟨_, I2, .lst (.inr (.inl ⟨od, upd_same⟩)) (RlA.stb st2 _ r), fun c hc hn => ?_, st.trans st2, fun c hc => ?_, fun c e => ?_⟩
      · have hc' : ¬ (c = a ∨ c ∈ F) := fun z => hc (List.mem_cons.mpr z)
        rw [upd_ne fun z => hc' (.inl z), b c (fun z => hc' (.inr z)) hn]
      · by_cases z : c = a
        · subst z; rw [upd_same]; simp
        · rw [upd_ne z]
          rcases List.mem_cons.mp hc with q | q
          · exact absurd q z
          · exact nn c q
      · rw [upd_ne fun z => by rw [z, h1] at e; cases e]
        exact fr c e
  | .dct kos, H, _, _, I, h => by
    cases h with
    | @dct a kvs _ F h1 h2 h3 h4 =>
      obtain ⟨H1, I1, r, b, st, nn, fr⟩ := Owk.freeze kos I h2
      have e1 : H1 a = some (.dK kvs) := (b a h3 (by rw [h1]; simp)).trans h1
      obtain ⟨od, I2⟩ := I1.lock e1 trivial
      have st2 : Stb H1 (upd H1 a (.frz od (.dK kvs))) := (upd_but (F := [a]) List.mem_cons_self).stb fun c hc => by
        rcases List.mem_singleton.mp hc with rfl
        exact .inr ⟨_, e1⟩
      refine ⟨_, I2, .dct (.inr (.inl ⟨od, upd_same⟩)) (RlK.stb st2 _ r), fun c hc hn => ?_, st.trans st2, fun c hc => ?_, fun c e => ?_⟩
      · have hc' : ¬ (c = a ∨ c ∈ F) := fun z => hc (List.mem_cons.mpr z)
        rw [upd_ne fun z => hc' (.inl z), b c (fun z => hc' (.inr z)) hn]
      · by_cases z : c = a
        · subst z; rw [upd_same]; simp
        · rw [upd_ne z]
          rcases List.mem_cons.mp hc with q | q
          · exact absurd q z
          · exact nn c q
      · rw [upd_ne fun z => by rw [z, h1] at e; cases e]
        exact fr c e
theorem Ows.freeze : ∀ (os : List O) {H : Hp} {vs : List V} {F : List Addr}, Inv X pins σ H s → Ows X.prog X.w X.K H vs os F →
    ∃ H', Inv X pins σ H' s ∧ RlA true X.prog X.w X.K H' vs (fzs os) ∧ But F H H' ∧ Stb H H' ∧ (∀ a ∈ F, H' a ≠ none) ∧ ∀ b, H b = none → H' b = none
  | [], H, _, _, I, h => by cases h; exact ⟨H, I, .nil, But.refl _ _, Stb.refl _, fun a ha => by simp at ha, fun _ e => e⟩
  | o :: os, H, _, _, I, h => by
    cases h with
    | @cons v _ vs _ F G h1 h2 h3 =>
      obtain ⟨H1, I1, r1, b1, s1, n1, f1⟩ := Ow.freeze o I h1
      have h2' : Ows X.prog X.w X.K H1 vs os G := Ows.keep s1 os h2 fun a ha => b1 a (fun z => h3 a z ha) (Ows.foot os h2 a ha).ne
      obtain ⟨H2, I2, r2, b2, s2, n2, f2⟩ := Ows.freeze os I1 h2'
      refine ⟨H2, I2, .cons (Rl.stb s2 _ r1) r2, fun c hc hn => ?_, s1.trans s2, fun c hc => ?_, fun c e => f2 c (f1 c e)⟩
      · have hc' : ¬ (c ∈ F ∨ c ∈ G) := fun z => hc (List.mem_append.mpr z)
        have q := b1 c (fun z => hc' (.inl z)) hn
        rw [b2 c (fun z => hc' (.inr z)) (by rw [q]; exact hn), q]
      · by_cases z : c ∈ G
        · exact n2 c z
        · have hF := (List.mem_append.mp hc).resolve_right z
          rw [b2 c z (n1 c hF)]
          exact n1 c hF
theorem Owk.freeze : ∀ (kos : List (Key × O)) {H : Hp} {kvs : List (Key × V)} {F : List Addr}, Inv X pins σ H s → Owk X.prog X.w X.K H kvs kos F →
    ∃ H', Inv X pins σ H' s ∧ RlK true X.prog X.w X.K H' kvs (fzk kos) ∧ But F H H' ∧ Stb H H' ∧ (∀ a ∈ F, H' a ≠ none) ∧ ∀ b, H b = none → H' b = none
  | [], H, _, _, I, h => by cases h; exact ⟨H, I, .nil, But.refl _ _, Stb.refl _, fun a ha => by simp at ha, fun _ e => e⟩
  | (k, o) :: kos, H, _, _, I, h => by
    cases h with
    | @cons _ v _ kvs _ F G h1 h2 h3 =>
      obtain ⟨H1, I1, r1, b1, s1, n1, f1⟩ := Ow.freeze o I h1
      have h2' : Owk X.prog X.w X.K H1 kvs kos G := Owk.keep s1 kos h2 fun a ha => b1 a (fun z => h3 a z ha) (Owk.foot kos h2 a ha).ne
      obtain ⟨H2, I2, r2, b2, s2, n2, f2⟩ := Owk.freeze kos I1 h2'
      refine ⟨H2, I2, .cons (Rl.stb s2 _ r1) r2, fun c hc hn => ?_, s1.trans s2, fun c hc => ?_, fun c e => f2 c (f1 c e)⟩
      · have hc' : ¬ (c ∈ F ∨ c ∈ G) := fun z => hc (List.mem_append.mpr z)
        have q := b1 c (fun z => hc' (.inl z)) hn
        rw [b2 c (fun z => hc' (.inr z)) (by rw [q]; exact hn), q]
      · by_cases z : c ∈ G
        · exact n2 c z
        · have hF := (List.mem_append.mp hc).resolve_right z
          rw [b2 c z (n1 c hF)]
          exact n1 c hF
end
end
end EV

set_option Elab.async false
set_option linter.all false
set_option maxRecDepth 100000
/-! EV4: places within owned objects, the locals (own work). -/
namespace EV
open PySem PySem.Spec PyProof.Rows L2
section
variable {P : Program} {w : World} {K : Frg} {H H' : Hp}
/-- what is read at k of the object v -/
def AtV (H : Hp) (v : V) (k : D) (v1 : V) : Prop :=
  (∃ a vs i, v = .ref a ∧ H a = some (.lst vs) ∧ k = .int i ∧ atI vs i = some v1) ∨
  ∃ a kvs q, v = .ref a ∧ H a = some (.dK kvs) ∧ dK k = some q ∧ valV kvs q = some v1
/-- a part that is changed: what the whole is then -/
theorem Ows.at : ∀ {vs : List V} {os : List O} {F : List Addr} {j : Nat} {o1 : O}, Ows P w K H vs os F → os[j]? = some o1 →
    ∃ v1 F1, vs[j]? = some v1 ∧ Ow P w K H v1 o1 F1 ∧ (∀ a ∈ F1, a ∈ F) ∧ ∀ (H' : Hp) (v2 : V) (o2 : O) (F2 : List Addr), Stb H H' → (∀ a ∈ F, a ∉ F1 → H' a = H a) → Ow P w K H' v2 o2 F2 →
      (∀ a ∈ F2, a ∈ F1 ∨ a ∉ F) → ∃ F', Ows P w K H' (vs.set j v2) (os.set j o2) F' ∧ ∀ a ∈ F', a ∈ F2 ∨ (a ∈ F ∧ a ∉ F1)
  | _, _, _, _, _, .nil, e => by simp at e
  | _, _, _, 0, _, @Ows.cons _ _ _ _ v o vs os F G h1 h2 h3, e => by
    simp at e; subst e
    refine ⟨v, F, rfl, h1, fun a ha => List.mem_append_left _ ha, fun H' v2 o2 F2 s ek h d => ?_⟩
    refine ⟨F2 ++ G, .cons h (Ows.keep s os h2 fun a ha => ek a (List.mem_append_right _ ha) fun z => h3 a z ha) fun a ha hg => ?_, fun a ha => ?_⟩
    · rcases d a ha with z | z
      · exact h3 a z hg
      · exact z (List.mem_append_right _ hg)
    · rcases List.mem_append.mp ha with z | z
      · exact .inl z
      · exact .inr ⟨List.mem_append_right _ z, fun q => h3 a q z⟩
  | _, _, _, j + 1, _, @Ows.cons _ _ _ _ v o vs os F G h1 h2 h3, e => by
    obtain ⟨v1, F1, e1, o1, sub, rp⟩ := Ows.at h2 (j := j) (by simpa using e)
    refine ⟨v1, F1, by simpa using e1, o1, fun a ha => List.mem_append_right _ (sub a ha), fun H' v2 o2 F2 s ek h d => ?_⟩
    obtain ⟨F', r1, r2⟩ := rp H' v2 o2 F2 s (fun a ha => ek a (List.mem_append_right _ ha)) h fun a ha => (d a ha).imp id fun z q => z (List.mem_append_right _ q)
    refine ⟨F ++ F', .cons (Ow.keep s o h1 fun a ha => ek a (List.mem_append_left _ ha) fun z => h3 a ha (sub a z)) r1 fun a ha hb => ?_, fun a ha => ?_⟩
    · rcases r2 a hb with z | ⟨z, _⟩
      · rcases d a z with q | q
        · exact h3 a ha (sub a q)
        · exact q (List.mem_append_left _ ha)
      · exact h3 a ha z
    · rcases List.mem_append.mp ha with z | z
      · exact .inr ⟨List.mem_append_left _ z, fun q => h3 a z (sub a q)⟩
      · exact (r2 a z).imp id fun q => ⟨List.mem_append_right _ q.1, q.2⟩
def findO (kos : List (Key × O)) (q : Key) : Option O := (kos.find? fun p => decide (p.1 = q)).map (·.2)
theorem findO_pos {k q : Key} {o : O} {r : List (Key × O)} (e : k = q) : findO ((k, o) :: r) q = some o := by simp [findO, e]
theorem findO_neg {k q : Key} {o : O} {r : List (Key × O)} (e : ¬ k = q) : findO ((k, o) :: r) q = findO r q := by simp [findO, e]
theorem findO_mem {q : Key} {o1 : O} : ∀ {kos : List (Key × O)}, findO kos q = some o1 → q ∈ kos.map (·.1)
  | [], e => by simp [findO] at e
  | (k, o) :: r, e => by
    by_cases hk : k = q
    · simp [hk]
    · rw [findO_neg hk] at e
      simp [findO_mem e]
theorem Owk.keys : ∀ {kvs : List (Key × V)} {kos : List (Key × O)} {F : List Addr}, Owk P w K H kvs kos F → kvs.map (·.1) = kos.map (·.1)
  | _, _, _, .nil => rfl
  | _, _, _, .cons _ t _ => by simp [Owk.keys t]
theorem map_off {κ β : Type} [DecidableEq κ] {q : κ} {v : β} : ∀ {l : List (κ × β)}, q ∉ l.map (·.1) → (l.map fun p => if p.1 = q then (p.1, v) else p) = l
  | [], _ => rfl
  | (k, o) :: r, h => by
    have h1 : ¬ q = k ∧ q ∉ r.map (·.1) := by simpa [not_or] using h
    rw [List.map_cons, map_off h1.2, if_neg fun z => h1.1 z.symm]
theorem Owk.at : ∀ {kvs : List (Key × V)} {kos : List (Key × O)} {F : List Addr} {q : Key} {o1 : O}, Owk P w K H kvs kos F → (kos.map (·.1)).Nodup → findO kos q = some o1 →
    ∃ v1 F1, valV kvs q = some v1 ∧ Ow P w K H v1 o1 F1 ∧ (∀ a ∈ F1, a ∈ F) ∧ ∀ (H' : Hp) (v2 : V) (o2 : O) (F2 : List Addr), Stb H H' → (∀ a ∈ F, a ∉ F1 → H' a = H a) → Ow P w K H' v2 o2 F2 →
      (∀ a ∈ F2, a ∈ F1 ∨ a ∉ F) → ∃ F', Owk P w K H' (kvs.map fun p => if p.1 = q then (p.1, v2) else p) (kos.map fun p => if p.1 = q then (p.1, o2) else p) F' ∧ ∀ a ∈ F', a ∈ F2 ∨ (a ∈ F ∧ a ∉ F1)
  | _, _, _, _, _, .nil, _, e => by simp [findO] at e
  | _, _, _, q, o1, @Owk.cons _ _ _ _ k v o kvs kos F G h1 h2 h3, nd, e => by
    have nd' : k ∉ kos.map (·.1) ∧ (kos.map (·.1)).Nodup := by
      rw [List.map_cons] at nd
      exact List.nodup_cons.mp nd
    by_cases hk : k = q
    · subst hk
      rw [findO_pos rfl] at e; cases e
      refine ⟨v, F, valV_pos rfl, h1, fun a ha => List.mem_append_left _ ha, fun H' v2 o2 F2 s ek h d => ?_⟩
      have k1 : k ∉ kvs.map (·.1) := by rw [Owk.keys h2]; exact nd'.1
      rw [List.map_cons, List.map_cons, if_pos rfl, if_pos rfl, map_off k1, map_off nd'.1]
      refine ⟨F2 ++ G, .cons h (Owk.keep s kos h2 fun a ha => ek a (List.mem_append_right _ ha) fun z => h3 a z ha) fun a ha hg => ?_, fun a ha => ?_⟩
      · rcases d a ha with z | z
        · exact h3 a z hg
        · exact z (List.mem_append_right _ hg)
      · rcases List.mem_append.mp ha with z | z
        · exact .inl z
        · exact .inr ⟨List.mem_append_right _ z, fun q => h3 a q z⟩
    · rw [findO_neg hk] at e
      obtain ⟨v1, F1, e1, o1, sub, rp⟩ := Owk.at h2 nd'.2 e
      refine ⟨v1, F1, by rw [valV_neg hk]; exact e1, o1, fun a ha => List.mem_append_right _ (sub a ha), fun H' v2 o2 F2 s ek h d => ?_⟩
      obtain ⟨F', r1, r2⟩ := rp H' v2 o2 F2 s (fun a ha => ek a (List.mem_append_right _ ha)) h fun a ha => (d a ha).imp id fun z q => z (List.mem_append_right _ q)
      rw [List.map_cons, List.map_cons, if_neg hk, if_neg hk]
      refine ⟨F ++ F', .cons (Ow.keep s o h1 fun a ha => ek a (List.mem_append_left _ ha) fun z => h3 a ha (sub a z)) r1 fun a ha hb => ?_, fun a ha => ?_⟩
      · rcases r2 a hb with z | ⟨z, _⟩
        · rcases d a z with q | q
          · exact h3 a ha (sub a q)
          · exact q (List.mem_append_left _ ha)
        · exact h3 a ha z
      · rcases List.mem_append.mp ha with z | z
        · exact .inr ⟨List.mem_append_left _ z, fun q => h3 a z (sub a q)⟩
        · exact (r2 a z).imp id fun q => ⟨List.mem_append_right _ q.1, q.2⟩
theorem Ows.length : ∀ {vs : List V} {os : List O} {F : List Addr}, Ows P w K H vs os F → vs.length = os.length
  | _, _, _, .nil => rfl
  | _, _, _, .cons _ t _ => by simp [Ows.length t]
theorem any_find {q : Key} {o1 : O} {kos : List (Key × O)} (h : findO kos q = some o1) : kos.any (fun p => decide (p.1 = q)) = true := by
  obtain ⟨p, hp, e⟩ := List.mem_map.mp (findO_mem h)
  exact List.any_eq_true.mpr ⟨p, hp, decide_eq_true e⟩
theorem keys_repl {q : Key} {β : Type} {o : β} : ∀ l : List (Key × β), (l.map fun p => if p.1 = q then (p.1, o) else p).map (·.1) = l.map (·.1)
  | [] => rfl
  | p :: r => by
    rw [List.map_cons, List.map_cons, List.map_cons, keys_repl r]
    split <;> rfl
theorem set_same {α : Type} {l : List α} {j : Nat} {v : α} (h : l[j]? = some v) : l.set j v = l := by
  apply List.ext_getElem?
  intro i
  by_cases e : j = i
  · subst e
    rw [List.getElem?_set_self (List.getElem?_eq_some_iff.mp h).1, h]
  · rw [List.getElem?_set_ne e]
theorem map_same {q : Key} {v : V} : ∀ {l : List (Key × V)}, valV l q = some v → (l.map (·.1)).Nodup → (l.map fun p => if p.1 = q then (p.1, v) else p) = l
  | [], h, _ => by simp [valV] at h
  | (k, x) :: r, h, nd => by
    rw [List.map_cons] at nd
    have nd' := List.nodup_cons.mp nd
    by_cases e : k = q
    · subst e
      rw [valV_pos rfl] at h
      cases h
      rw [List.map_cons, if_pos rfl, map_off nd'.1]
    · rw [valV_neg e] at h
      rw [List.map_cons, if_neg e, map_same h nd'.2]
theorem atI_of {α : Type} {xs : List α} {i : Int} {j : Nat} {v : α} (h : ixN xs.length i = some j) (e : xs[j]? = some v) : atI xs i = some v := by
  unfold atI
  rw [h]
  exact e
theorem of_atI {α : Type} {xs : List α} {i : Int} {v : α} (h : atI xs i = some v) : ∃ j, ixN xs.length i = some j ∧ xs[j]? = some v := by
  unfold atI at h
  exact Option.bind_eq_some_iff.mp h
/-- one step into a place -/
theorem Ow.at {v : V} {o : O} {F : List Addr} {k : D} {o1 : O} (h : Ow P w K H v o F) (e : o.at k = some o1) :
    ∃ v1 F1, AtV H v k v1 ∧ Ow P w K H v1 o1 F1 ∧ (∀ a ∈ F1, a ∈ F) ∧ ∀ (H' : Hp) (o2 o' : O) (F2 : List Addr), Stb H H' → (∀ a ∈ F, a ∉ F1 → H' a = H a) → Ow P w K H' v1 o2 F2 →
      (∀ a ∈ F2, a ∈ F1 ∨ a ∉ F) → setAt o k o2 = some o' → ∃ F', Ow P w K H' v o' F' ∧ ∀ a ∈ F', a ∈ F2 ∨ (a ∈ F ∧ a ∉ F1) := by
  cases h with
  | imm h => simp [O.at] at e
  | @lst a vs os F h1 h2 h3 =>
    cases k with
    | int i =>
      have e : atI os i = some o1 := e
      obtain ⟨j, hj, ej⟩ := of_atI e
      obtain ⟨v1, F1, e1, ow1, sub, rp⟩ := h2.at ej
      have hl := h2.length
      refine ⟨v1, F1, .inl ⟨a, vs, i, rfl, h1, rfl, atI_of (by rw [hl]; exact hj) e1⟩, ow1, fun b hb => List.mem_cons_of_mem _ (sub b hb), fun H' o2 o' F2 s ek h d hs => ?_⟩
      have na : a ∉ F1 := fun z => h3 (sub a z)
      obtain ⟨F', r1, r2⟩ := rp H' v1 o2 F2 s (fun b hb => ek b (List.mem_cons_of_mem _ hb)) h fun b hb => (d b hb).imp id fun z q => z (List.mem_cons_of_mem _ q)
      have hs : (ixN os.length i).map (fun j => O.lst (os.set j o2)) = some o' := hs
      rw [hj] at hs
      cases hs
      rw [set_same e1] at r1
      refine ⟨a :: F', .lst ((ek a List.mem_cons_self na).trans h1) r1 fun z => ?_, fun b hb => ?_⟩
      · rcases r2 a z with q | ⟨q, _⟩
        · rcases d a q with q | q
          · exact na q
          · exact q List.mem_cons_self
        · exact h3 q
      · rcases List.mem_cons.mp hb with rfl | hb
        · exact .inr ⟨List.mem_cons_self, na⟩
        · exact (r2 b hb).imp id fun q => ⟨List.mem_cons_of_mem _ q.1, q.2⟩
    | _ => simp [O.at] at e
  | @dct a kvs kos F h1 h2 h3 h4 =>
    have e : (dK k).bind (fun q => findO kos q) = some o1 := by
      cases k <;> exact e
    obtain ⟨q, hq, e⟩ := Option.bind_eq_some_iff.mp e
    obtain ⟨v1, F1, e1, ow1, sub, rp⟩ := h2.at h4 e
    refine ⟨v1, F1, .inr ⟨a, kvs, q, rfl, h1, hq, e1⟩, ow1, fun b hb => List.mem_cons_of_mem _ (sub b hb), fun H' o2 o' F2 s ek h d hs => ?_⟩
    have na : a ∉ F1 := fun z => h3 (sub a z)
    obtain ⟨F', r1, r2⟩ := rp H' v1 o2 F2 s (fun b hb => ek b (List.mem_cons_of_mem _ hb)) h fun b hb => (d b hb).imp id fun z q => z (List.mem_cons_of_mem _ q)
    have hs : (dK k).bind (fun q => if kos.length < sizeLine then some (O.dct (putO kos q o2)) else none) = some o' := by
      cases k <;> exact hs
    rw [hq] at hs
    have hs : (if kos.length < sizeLine then some (O.dct (putO kos q o2)) else none) = some o' := hs
    split at hs
    · cases hs
      have ep : putO kos q o2 = kos.map fun p => if p.1 = q then (p.1, o2) else p := by
        unfold putO
        rw [if_pos (any_find e)]
      rw [ep]
      rw [map_same e1 (by rw [Owk.keys h2]; exact h4)] at r1
      refine ⟨a :: F', .dct ((ek a List.mem_cons_self na).trans h1) r1 (fun z => ?_) (by rw [keys_repl]; exact h4), fun b hb => ?_⟩
      · rcases r2 a z with q | ⟨q, _⟩
        · rcases d a q with q | q
          · exact na q
          · exact q List.mem_cons_self
        · exact h3 q
      · rcases List.mem_cons.mp hb with rfl | hb
        · exact .inr ⟨List.mem_cons_self, na⟩
        · exact (r2 b hb).imp id fun q => ⟨List.mem_cons_of_mem _ q.1, q.2⟩
    · cases hs
/-- the values along a path -/
inductive Pth (H : Hp) : V → List D → V → Prop
  | nil {v : V} : Pth H v [] v
  | cons {v v1 v2 : V} {k : D} {ks : List D} : AtV H v k v1 → Pth H v1 ks v2 → Pth H v (k :: ks) v2
theorem Ow.path : ∀ {ks : List D} {v : V} {o : O} {F : List Addr} {o1 : O}, Ow P w K H v o F → atP o ks = some o1 →
    ∃ v1 F1, Pth H v ks v1 ∧ Ow P w K H v1 o1 F1 ∧ (∀ a ∈ F1, a ∈ F) ∧ ∀ (H' : Hp) (o2 o' : O) (F2 : List Addr), Stb H H' → (∀ a ∈ F, a ∉ F1 → H' a = H a) → Ow P w K H' v1 o2 F2 →
      (∀ a ∈ F2, a ∈ F1 ∨ a ∉ F) → putP o ks o2 = some o' → ∃ F', Ow P w K H' v o' F' ∧ ∀ a ∈ F', a ∈ F2 ∨ (a ∈ F ∧ a ∉ F1)
  | [], v, o, F, _, h, e => by
    cases e
    refine ⟨v, F, .nil, h, fun _ z => z, fun H' o2 o' F2 s ek h d hs => ?_⟩
    cases hs
    exact ⟨F2, h, fun a ha => .inl ha⟩
  | k :: ks, v, o, F, o1, h, e => by
    obtain ⟨om, e1, e2⟩ := Option.bind_eq_some_iff.mp (show (o.at k).bind (fun o' => atP o' ks) = some o1 from e)
    obtain ⟨vm, Fm, am, owm, subm, rpm⟩ := h.at e1
    obtain ⟨v1, F1, p1, ow1, sub1, rp1⟩ := Ow.path owm e2
    refine ⟨v1, F1, .cons am p1, ow1, fun a ha => subm a (sub1 a ha), fun H' o2 o' F2 s ek h2 d hs => ?_⟩
    obtain ⟨om', q1, q2⟩ := Option.bind_eq_some_iff.mp (show (o.at k).bind (fun o' => (putP o' ks o2).bind fun o3 => setAt o k o3) = some o' from hs)
    rw [e1] at q1; cases q1
    obtain ⟨o3, q3, q4⟩ := Option.bind_eq_some_iff.mp q2
    obtain ⟨F', r1, r2⟩ := rp1 H' o2 o3 F2 s (fun a ha => ek a (subm a ha)) h2 (fun a ha => (d a ha).imp id fun z q => z (subm a q)) q3
    have sd : ∀ a ∈ F', a ∈ Fm ∨ a ∉ F := fun a ha => by
      rcases r2 a ha with z | ⟨z, _⟩
      · rcases d a z with q | q
        · exact .inl (sub1 a q)
        · exact .inr q
      · exact .inl z
    obtain ⟨F'', r3, r4⟩ := rpm H' o3 o' F' s (fun a ha hn => ek a ha fun z => hn (sub1 a z)) r1 sd q4
    refine ⟨F'', r3, fun a ha => ?_⟩
    rcases r4 a ha with z | ⟨z1, z2⟩
    · rcases r2 a z with z | ⟨z1, z2⟩
      · exact .inl z
      · exact .inr ⟨subm a z1, z2⟩
    · exact .inr ⟨z1, fun q => z2 (sub1 a q)⟩

/-! ### the locals -/
def SlOk (P : Program) (w : World) (K : Frg) (H : Hp) (x : Option V) (sl : Option Sl) (G : List Addr) : Prop :=
  match sl with
  | none => G = []
  | some (.val d) => G = [] ∧ ∃ v, x = some v ∧ Rl true P w K H v d
  | some (.own o) => ∃ v, x = some v ∧ Ow P w K H v o G
inductive EnvOk (P : Program) (w : World) (K : Frg) (H : Hp) : L2.St → Ev → List Addr → Prop
  | nil : EnvOk P w K H [] [] []
  | cons {x : Option V} {sl : Option Sl} {σ : L2.St} {env : Ev} {G F : List Addr} : SlOk P w K H x sl G → EnvOk P w K H σ env F → (∀ a ∈ G, a ∉ F) → EnvOk P w K H (x :: σ) (sl :: env) (G ++ F)
theorem SlOk.keep {x : Option V} {sl : Option Sl} {G : List Addr} (h : SlOk P w K H x sl G) (s : Stb H H') (e : ∀ a ∈ G, H' a = H a) : SlOk P w K H' x sl G := by
  match sl, h with
  | none, h => exact h
  | some (.val d), ⟨hG, v, hx, h⟩ => exact ⟨hG, v, hx, Rl.stb s d h⟩
  | some (.own o), ⟨v, hx, h⟩ => exact ⟨v, hx, Ow.keep s o h e⟩
theorem SlOk.foot {x : Option V} {sl : Option Sl} {G : List Addr} (h : SlOk P w K H x sl G) : ∀ a ∈ G, IsMut H a := by
  match sl, h with
  | none, h => rw [show G = [] from h]; simp
  | some (.val d), ⟨hG, _⟩ => rw [hG]; simp
  | some (.own o), ⟨v, hx, h⟩ => exact Ow.foot o h
theorem EnvOk.keep (s : Stb H H') : ∀ {σ : L2.St} {env : Ev} {F : List Addr}, EnvOk P w K H σ env F → (∀ a ∈ F, H' a = H a) → EnvOk P w K H' σ env F
  | _, _, _, .nil, _ => .nil
  | _, _, _, .cons h t d, e => .cons (h.keep s fun a ha => e a (List.mem_append_left _ ha)) (EnvOk.keep s t fun a ha => e a (List.mem_append_right _ ha)) d
theorem EnvOk.foot : ∀ {σ : L2.St} {env : Ev} {F : List Addr}, EnvOk P w K H σ env F → ∀ a ∈ F, IsMut H a
  | _, _, _, .nil, a, ha => by simp at ha
  | _, _, _, .cons h t d, a, ha => (List.mem_append.mp ha).elim (h.foot a) (EnvOk.foot t a)
theorem EnvOk.length : ∀ {σ : L2.St} {env : Ev} {F : List Addr}, EnvOk P w K H σ env F → σ.length = env.length
  | _, _, _, .nil => rfl
  | _, _, _, .cons _ t _ => by simp [EnvOk.length t]
/-- a slot, and what the whole is when it is changed -/
theorem EnvOk.at : ∀ {σ : L2.St} {env : Ev} {F : List Addr} {i : Nat} {sl : Option Sl}, EnvOk P w K H σ env F → env[i]? = some sl →
    ∃ x G, σ[i]? = some x ∧ SlOk P w K H x sl G ∧ (∀ a ∈ G, a ∈ F) ∧ ∀ (H' : Hp) (x' : Option V) (sl' : Option Sl) (G' : List Addr), Stb H H' → (∀ a ∈ F, a ∉ G → H' a = H a) → SlOk P w K H' x' sl' G' →
      (∀ a ∈ G', a ∈ G ∨ a ∉ F) → ∃ F', EnvOk P w K H' (σ.set i x') (env.set i sl') F' ∧ ∀ a ∈ F', a ∈ G' ∨ (a ∈ F ∧ a ∉ G)
  | _, _, _, _, _, .nil, e => by simp at e
  | _, _, _, 0, _, @EnvOk.cons _ _ _ _ x sl σ env G F h1 h2 h3, e => by
    simp at e; subst e
    refine ⟨x, G, rfl, h1, fun a ha => List.mem_append_left _ ha, fun H' x' sl' G' s ek h d => ?_⟩
    refine ⟨G' ++ F, .cons h (EnvOk.keep s h2 fun a ha => ek a (List.mem_append_right _ ha) fun z => h3 a z ha) fun a ha hg => ?_, fun a ha => ?_⟩
    · rcases d a ha with z | z
      · exact h3 a z hg
      · exact z (List.mem_append_right _ hg)
    · rcases List.mem_append.mp ha with z | z
      · exact .inl z
      · exact .inr ⟨List.mem_append_right _ z, fun q => h3 a q z⟩
  | _, _, _, i + 1, _, @EnvOk.cons _ _ _ _ y sl σ env G F h1 h2 h3, e => by
    obtain ⟨x, G1, e1, s1, sub, rp⟩ := EnvOk.at h2 (i := i) (by simpa using e)
    refine ⟨x, G1, by simpa using e1, s1, fun a ha => List.mem_append_right _ (sub a ha), fun H' x' sl' G' s ek h d => ?_⟩
    obtain ⟨F', r1, r2⟩ := rp H' x' sl' G' s (fun a ha => ek a (List.mem_append_right _ ha)) h fun a ha => (d a ha).imp id fun z q => z (List.mem_append_right _ q)
    refine ⟨G ++ F', .cons (h1.keep s fun a ha => ek a (List.mem_append_left _ ha) fun z => h3 a ha (sub a z)) r1 fun a ha hb => ?_, fun a ha => ?_⟩
    · rcases r2 a hb with z | ⟨z, _⟩
      · rcases d a z with q | q
        · exact h3 a ha (sub a q)
        · exact q (List.mem_append_left _ ha)
      · exact h3 a ha z
    · rcases List.mem_append.mp ha with z | z
      · exact .inr ⟨List.mem_append_left _ z, fun q => h3 a z (sub a q)⟩
      · exact (r2 a z).imp id fun q => ⟨List.mem_append_right _ q.1, q.2⟩
/-- a slot gets other content; the heap is as it was -/
theorem EnvOk.put {σ : L2.St} {env : Ev} {F : List Addr} (h : EnvOk P w K H σ env F) (i : Nat) {x' : Option V} {sl' : Option Sl} {G' : List Addr} (hs : SlOk P w K H x' sl' G') (d : ∀ a ∈ G', a ∉ F) :
    ∃ F', EnvOk P w K H (σ.set i x') (env.set i sl') F' ∧ ∀ a ∈ F', a ∈ G' ∨ a ∈ F := by
  cases e : env[i]? with
  | none =>
    have hl := h.length
    have hi := List.getElem?_eq_none_iff.mp e
    rw [List.set_eq_of_length_le hi, List.set_eq_of_length_le (by omega)]
    exact ⟨F, h, fun a ha => .inr ha⟩
  | some sl =>
    obtain ⟨x, G, e1, s1, sub, rp⟩ := h.at e
    obtain ⟨F', r1, r2⟩ := rp H x' sl' G' (Stb.refl _) (fun _ _ _ => rfl) hs fun a ha => .inr (d a ha)
    exact ⟨F', r1, fun a ha => (r2 a ha).imp id (·.1)⟩
end
end EV

set_option Elab.async false
set_option linter.all false
set_option maxRecDepth 100000
/-! EV5: promises of defs that may use that no repr runs around them (own work, over the hand layer's rules). -/
namespace EV
open PySem PySem.Spec PyProof.Rows L2

/-- the def at f keeps sp, called where no guard is up -/
structure FnG (P : Program) (w : World) (K : Frg) (mg : Str → Option Value) (base : Heap) (CX : CXT) (k : Nat) (f : Addr) (fd : FuncData) (ps : List Str) (sp : Sp) : Prop where
  len : ∀ vs H Q E, sp vs H Q E → vs.length = ps.length
  run : ∀ (A : Around) (fr : List Env) (s : Shared) (H : Hp) (ar : Args) (us : List Value) (vs : List V) (Q : VK) (E : XK),
    Room k A → A.guards = some [] → Env0 P w K mg base A fr s H →
    BindsTo s fd ar (ps.zip us) → Vals vs us → sp vs H Q E →
    codeAny (model P w) A (.call (.ref f) ar) (CR CX fr P w H s Q E) s

variable {P : Program} {w : World} {K : Frg} {mg : Str → Option Value} {base : Heap} {CX : CXT}
theorem FnG.mono {j k : Nat} {f : Addr} {fd : FuncData} {ps : List Str} {sp : Sp}
    (F : FnG P w K mg base CX j f fd ps sp) (h : j ≤ k) : FnG P w K mg base CX k f fd ps sp :=
  ⟨F.len, fun A fr s H ar us vs Q E r => F.run A fr s H ar us vs Q E (r.mono h)⟩
/-- by the body -/
theorem fnG_of {k : Nat} {f : Addr} {nm qn : Str} {prm : Arguments} {bd : List Stmt} {sc : Scope} {kV doc pm cdv ct oc : Value}
    {an od : Option Addr} {sl : Array (Option Value)} {N ps : List Str} {sp : Sp} {dV : Value}
    (lk : K.lookup f = some ⟨oc, od, .func (PySem.W.fnOf nm qn prm bd sc dV kV doc pm an cdv ct), sl⟩)
    (hc : PySem.W.codeIn K cdv qn = true) (S : FnScope N ps sc) (len : ∀ vs H Q E, sp vs H Q E → vs.length = ps.length)
    (hb : ∀ (A : Around) (fr : List Env) (s : Shared) (H : Hp) (vs : List V) (Q : VK) (E : XK),
      Room k (A.deeper (envOfC qn sc s.heap.objs.size f cdv)) → A.guards = some [] → sp vs H Q E →
      ∃ t, PSs (cxOf CX P w K mg base N qn sc f cdv A fr s H E) bd t ∧
        t { nx := fun _ H' => Q .non H', rt := Q } (start N vs) H) :
    FnG P w K mg base CX (k + 1) f (PySem.W.fnOf nm qn prm bd sc dV kV doc pm an cdv ct) ps sp := by
  refine ⟨len, fun A fr s H ar us vs Q E hr hg e0 hbd r hsp => ?_⟩
  have KX : K.In s.heap := e0.mod.kin.keeps fun b o e => (e0.bs b o e).1
  have nl : s.heap.NoLimit := e0.mod.nolimit.keeps fun b o e => (e0.bs b o e).1
  have hk : ∀ y ∈ ps.zip us, sc.names.lookup y.1 = some .local ∨
      (sc.names.lookup y.1 = some .cell ∧ ((cellsFrom (s.heap.objs.size + 1) sc.names []).lookup y.1).isSome = true) := by
    rintro ⟨n, v⟩ hy
    refine (S.par n (List.of_mem_zip hy).1).imp id fun q => ⟨q, ?_⟩
    exact PySem.W.cellsFrom_some _ _ _ (.inl q)
  refine codeAny_call_function hr.depth (KX _ _ lk) rfl S.co S.gen rfl
    (PySem.W.codeRec_of KX hc) (hbd _ _ _ _ ?_)
  refine wpAny_newFunctionEnv_cells S.kind hk fun env he s1 x => ?_
  subst he
  refine ⟨nl.keeps x.toInCall.keep, codeAny_func ?_⟩
  obtain ⟨t, ht, hq⟩ := hb A fr s H vs Q E (hr.deeper _) hg hsp
  have I := inv_start (CX := CX) (mg := mg) (base := base) (E := E) S hr.hd e0 (len _ _ _ _ hsp) r x
  refine wpAny_mono (ht.run [] s1 _ H _ I hq) (fun fl s' hs => ?_) fun e s' hs => hs
  match fl, hs with
  | .ret u, ⟨v, σ', H', J, rv, q⟩ => exact ⟨v, H', J.os, J.bare, J.base, J.hok, rv, q⟩
  | .next, ⟨σ', H', J, q⟩ => exact ⟨V.non, H', J.os, J.bare, J.base, J.hok, rfl, q⟩
  | .brk, ⟨_, _, _, q⟩ => exact False.elim q
  | .cont, ⟨_, _, _, q⟩ => exact False.elim q

section
variable {X : Cx} {k : Nat} {f : Addr} {fd : FuncData} {ps : List Str} {sp : Sp} {E : XK}
/-- the callee runs, its arguments bound as they may -/
theorem runG {pins : List (Addr × Obj)} {σ : L2.St} {H : Hp} {s : Shared} {Q : VK} {ar : Args} {us : List Value} {vs : List V}
    (F : FnG X.prog X.w X.K X.mg X.base CX k f fd ps sp) (hr : Room k X.A) (hg : X.A.guards = some []) (hx : Passes CX X E)
    (I : Inv X pins σ H s) (hb : BindsTo s fd ar (ps.zip us)) (r : Vals vs us) (h : sp vs H Q E) :
    codeAny (model X.prog X.w) X.A (.call (.ref f) ar) (fun r s' => match r with
      | .ok (.ret v) => EP X pins σ Q v s'
      | .ok _ => False
      | .error e => X.xe e s') s := by
  refine codeAny_mono (F.run X.A X.stack s H ar us vs Q E hr hg I.env0 hb r h) fun r s' hq => ?_
  match r, hq with
  | .error e, hq => exact hx pins σ H s e s' I hq
  | .ok (.ret u), hq => exact I.after hq
  | .ok .next, hq => exact False.elim hq
  | .ok .brk, hq => exact False.elim hq
  | .ok .cont, hq => exact False.elim hq
end

/-- the law's call -/
theorem law_callG {mb : Str → Option Value} {k : Nat} {fa a : Addr} {fd : FuncData} {x : Str} {sp : Sp} {s1 : Shared} {us : List Value} {ns : List Int}
    (KX : K.In s1.heap) (gl : s1.heap.Ns mainGlobals mg) (bl : s1.heap.Ns builtinsNs mb)
    (bb : ∀ x : Str, x ≠ "__name__" → mb x = bootBuiltins x) (nl : s1.heap.NoLimit) (hg : s1.gens = #[])
    (ha : s1.heap.get? a = some { cls := .type "list", data := .seq us.toArray }) (hi : IntsAre us ns) (hl : ns.length ≤ sizeLine) (hr : Room k callerA)
    (F : ∀ base : Heap, K.In base → base.Ns mainGlobals mg → FnG P w K mg base CX0 k fa fd [x] sp)
    (hbd : ∀ (s : Shared) (u : Value), BindsTo s fd ⟨[u], []⟩ [(x, u)])
    (hsp : ∀ H : Hp, LR true K H a (ns.map V.int) → sp [.ref a] H (fun v _ => v = .bl true) E0) :
    codeAny (model P w) callerA (.call (.ref fa) ⟨[.ref a], []⟩)
      (fun r s' => r = .ok (.ret (.bool true)) ∧ OldK s1.heap s'.heap ∧ s'.os = s1.os ∧ AllBare s'.gens) s1 := by
  have rv : Vals (ns.map V.int) us := vals_ints hi
  -- H: at most the script is tracked, and frozen
  have go : ∀ H : Hp, (∀ b, H b = none ∨ (b = a ∧ ∃ o xs, H b = some (.frz o (.lst xs)))) → LR true K H a (ns.map V.int) →
      HOk P w H s1.heap → (H a ≠ none → K.lookup a = none) →
      codeAny (model P w) callerA (.call (.ref fa) ⟨[.ref a], []⟩)
        (fun r s' => r = .ok (.ret (.bool true)) ∧ OldK s1.heap s'.heap ∧ s'.os = s1.os ∧ AllBare s'.gens) s1 := by
    intro H hO hS ok hK
    have nd : ∀ {b : Addr} {o : Obj} {es : Array DictEntry} {ep : Nat}, s1.heap.get? b = some o → o.data = .dict es ep → H b = none := by
      intro b o es ep e d
      rcases hO b with z | ⟨z, _⟩
      · exact z
      · subst z
        rw [ha] at e
        cases e
        exact nomatch (show Data.seq us.toArray _ = Data.dict es ep from d)
    have ns' : ∀ {b : Addr} {m : Str → Option Value}, s1.heap.Ns b m → (hidT s1.heap H).Ns b m := by
      rintro b m ⟨o, es, ep, e, d, r⟩
      exact ⟨o, es, ep, hidT_get e (nd e d), d, r⟩
    have kb : K.In (hidT s1.heap H) := by
      intro b o e
      refine hidT_get (KX b o e) ?_
      rcases hO b with z | ⟨z, o', xs, q⟩
      · exact z
      · subst z
        rw [hK (by rw [q]; simp)] at e
        cases e
    obtain ⟨mc, l1, l2⟩ := nl
    have M : Mod K mg (hidT s1.heap H) := ⟨kb, ns' gl, ⟨mb, ns' bl, bb⟩, ⟨mc, ns' l1, l2⟩⟩
    have nofr : ∀ b ∈ frs ([] : List Env), H b = none := fun b hb => nomatch (show b ∈ ([] : List Addr) from hb)
    have e0 : Env0 P w K mg (hidT s1.heap H) callerA [] s1 H :=
      ⟨rfl, M, fun b o e => of_hidT e, Nat.le_of_eq (hidT_size _ _), trivial, nofr, ok, .of_eq hg⟩
    have vr : Vals [V.ref a] [Value.ref a] := .cons rfl .nil
    refine codeAny_mono ((F _ kb (ns' gl)).run callerA [] s1 H ⟨[.ref a], []⟩ [.ref a] [.ref a] _ _ hr rfl e0
      (hbd s1 (.ref a)) vr (hsp H hS)) fun r s' h => ?_
    match r, h with
    | .error e, h => exact False.elim h
    | .ok .next, h => exact False.elim h
    | .ok .brk, h => exact False.elim h
    | .ok .cont, h => exact False.elim h
    | .ok (.ret u), ⟨v, H', os, bare, un, ok', r', q⟩ =>
      have q : v = V.bl true := q
      subst q
      obtain rfl : u = Value.bool true := r'
      refine ⟨rfl, OldK.of_keep fun b o e => ?_, os, bare⟩
      rcases hO b with z | ⟨z, ob, xs, q⟩
      · exact un.keep b o e z (fun t => nomatch (show b ∈ ([] : List Addr) from t)) (fun t => nomatch t)
      · obtain ⟨e1, _⟩ := ok b _ q
        obtain ⟨e2, _⟩ := ok' b _ (un.frzs b ob _ q)
        rw [e] at e1
        cases e1
        exact e2
  cases hk : K.lookup a with
  | some o =>
    have e := KX a o hk
    rw [ha] at e
    cases e
    have lk : KL K a (ns.map V.int) := by
      refine ⟨us, _, hk, ?_, rv⟩
      rw [List.length_map]
      exact hl
    refine go (fun _ => none) (fun _ => .inl rfl) (.inr (.inr lk)) (fun b u z => ?_) fun z => absurd rfl z
    exact nomatch (show (none : Option HO) = some u from z)
  | none =>
    let ob : Obj := { cls := .type "list", data := .seq us.toArray }
    let H1 : Hp := upd (fun _ => none) a (.frz ob (.lst (ns.map V.int)))
    have at_ : H1 a = some (.frz ob (.lst (ns.map V.int))) := upd_same
    have off : ∀ b, b ≠ a → H1 b = none := fun b hb => upd_ne hb
    refine go H1 (fun b => ?_) (.inr (.inl ⟨ob, at_⟩)) (fun b u z => ?_) fun _ => hk
    · by_cases e : b = a
      · subst e
        exact .inr ⟨rfl, _, _, at_⟩
      · exact .inl (off b e)
    · by_cases e : b = a
      · subst e
        rw [at_] at z
        cases z
        exact ⟨ha, by rw [List.length_map]; exact hl, us, _, rv, ha⟩
      · rw [off b e] at z
        cases z
/-- the end of a law: F gives the written part, the law's function, its promise -/
theorem walk_G {l : PySem.W.OpenLaw} {n k : Nat} {q : Program} {loose : List Str} {XP : (Str → Option Value) → Heap → Prop} {YP : World → Heap → Prop} {d : DefRec} {x : Str}
    (hn : l.most = some n) (hn2 : n ≤ sizeLine) (hdf : d.params.defaults = []) (hr : Room k callerA)
    (F : ∀ (w : World) (mg : Str → Option Value) (fa : Addr) (h : Heap), YP w h → h.Ns mainGlobals mg → mg d.name = some (.ref fa) →
      ∃ (K : Frg) (fd : FuncData) (sp : Sp), K.In h ∧ (∀ (s : Shared) (u : Value), BindsTo s fd ⟨[u], []⟩ [(x, u)]) ∧
        (∀ (H : Hp) (a : Addr) (ns : List Int), ns.length ≤ n → LR true K H a (ns.map V.int) → sp [.ref a] H (fun v _ => v = .bl true) E0) ∧
        ∀ base : Heap, K.In base → base.Ns mainGlobals mg → FnG l.prog w K mg base CX0 k fa fd [x] sp) :
    PySem.W.WalkO q loose XP YP l.row.toRowW d [] (fun f vs => PySem.call f vs) := by
  refine Att.attach_call hn hdf fun w s0 s1 mg mb fa o pm cd doc a vs ns G Y ho hd hcd hmg hobj hints hlen hg => ?_
  obtain ⟨K, fd, sp, KX, hb, hsp, hF⟩ := F w mg fa _ Y G.T.g hmg
  exact law_callG KX G.T.g G.T.b G.T.builtins G.T.nolimit hg hobj hints (Nat.le_trans hlen hn2) hr hF hb
    fun H hS => hsp H a ns hlen hS
end EV

set_option Elab.async false
set_option linter.all false
set_option maxRecDepth 100000
/-! EV6: the operations by their values (own work, over the hand layer's rules). -/
namespace EV
open PySem PySem.Spec PyProof.Rows L2
section
variable {X : Cx}
abbrev Rs (X : Cx) (H : Hp) : V → D → Prop := Rl true X.prog X.w X.K H
abbrev Rv (X : Cx) (H : Hp) : V → D → Prop := Rl false X.prog X.w X.K H
abbrev RsA (X : Cx) (H : Hp) : List V → List D → Prop := RlA true X.prog X.w X.K H
abbrev RvA (X : Cx) (H : Hp) : List V → List D → Prop := RlA false X.prog X.w X.K H
/-- data whose parts stay -/
def Px (X : Cx) (H : Hp) (v : V) : D → Prop
  | .list ds => ∃ a vs, v = .ref a ∧ LR false X.K H a vs ∧ RsA X H vs ds
  | .dict kds => ∃ a kvs, v = .ref a ∧ DR false X.prog X.w X.K H a kvs ∧ RlK true X.prog X.w X.K H kvs kds
  | d => Rs X H v d
theorem Px.of_rs {H : Hp} {v : V} : ∀ {d : D}, Rs X H v d → Px X H v d
  | .none, h => h
  | .bool _, h => h
  | .int _, h => h
  | .str _, h => h
  | .tuple _, h => h
  | .list _, h => by cases h with | lst h1 h2 => exact ⟨_, _, rfl, h1.weak, h2⟩
  | .dict _, h => by cases h with | dct h1 h2 => exact ⟨_, _, rfl, h1.weak, h2⟩
theorem Px.rv {H : Hp} {v : V} : ∀ {d : D}, Px X H v d → Rv X H v d
  | .none, h => Rl.weak _ (show Rs X H v .none from h)
  | .bool b, h => Rl.weak _ (show Rs X H v (.bool b) from h)
  | .int i, h => Rl.weak _ (show Rs X H v (.int i) from h)
  | .str x, h => Rl.weak _ (show Rs X H v (.str x) from h)
  | .tuple ds, h => Rl.weak _ (show Rs X H v (.tuple ds) from h)
  | .list _, ⟨_, _, e, h1, h2⟩ => by subst e; exact .lst h1 (RlA.weak _ h2)
  | .dict _, ⟨_, _, e, h1, h2⟩ => by subst e; exact .dct h1 (RlK.weak _ h2)
/-- what is new -/
def Nw (X : Cx) (H H' : Hp) (v : V) (r : RV) : Prop := Same H H' ∧ match r with
  | .val d => Rs X H' v d
  | .own o => ∃ G, Ow X.prog X.w X.K H' v o G ∧ ∀ a ∈ G, H a = none
  | .brw _ => False
theorem same_new {H : Hp} {p : Addr} {o : HO} (h : H p = none) : Same H (upd H p o) := fun b u e => by
  rw [upd_ne fun z => by rw [z, h] at e; cases e]
  exact e
theorem ows_imm {P : Program} {w : World} {K : Frg} {H : Hp} : ∀ {vs : List V} {ds : List D}, RlA true P w K H vs ds → Ows P w K H vs (ds.map .imm) []
  | _, _, .nil => .nil
  | _, _, .cons h t => Ows.cons (F := []) (G := []) (.imm h) (ows_imm t) (fun a ha => by simp at ha)
theorem nw_list {H : Hp} {p : Addr} {vs : List V} {ds : List D} (hp : H p = none) (h : RsA X H vs ds) : Nw X H (upd H p (.lst vs)) (.ref p) (.own (ofL ds)) := by
  have s := same_new (o := HO.lst vs) hp
  refine ⟨s, [p], .lst upd_same (ows_imm (RlA.stb (Stb.of_same s) _ h)) (by simp), fun a ha => ?_⟩
  rcases List.mem_singleton.mp ha with rfl
  exact hp
theorem nw_tup {H : Hp} {p : Addr} {ob : Obj} {vs : List V} {ds : List D} (hp : H p = none) (hd : ob.dict = none) (h : RsA X H vs ds) : Nw X H (upd H p (.frz ob (.tup vs))) (.ref p) (.val (.tuple ds)) := by
  have s := same_new (o := HO.frz ob (.tup vs)) hp
  exact ⟨s, .tup (.inl ⟨ob, upd_same, hd⟩) (RlA.stb (Stb.of_same s) _ h)⟩
/-- what is new, for a rule that lays a tuple -/
theorem new_tup {H : Hp} {vs : List V} {ds : List D} {Q : VK} (h : RsA X H vs ds) (q : ∀ v H', Nw X H H' v (.val (.tuple ds)) → Q v H') : NewT H vs Q := fun p ob hp hd => q _ _ (nw_tup hp hd h)
theorem nw_same {H : Hp} {v : V} {d : D} (h : Rs X H v d) : Nw X H H v (.val d) := ⟨Same.refl _, h⟩
/-- the object of a readable list -/
theorem lst_at {pins : List (Addr × Obj)} {σ : L2.St} {H : Hp} {s : Shared} {st : Bool} {a : Addr} {vs : List V} (I : Inv X pins σ H s) (h : LR st X.K H a vs) :
    vs.length ≤ sizeLine ∧ ∃ (us : List Value) (n : Nat), Vals vs us ∧ vs.length = us.length ∧ s.heap.get? a = some { cls := .type "list", data := .seq us.toArray n } := by
  rcases h with ⟨_, h⟩ | ⟨o, h⟩ | ⟨us, m, h1, h2, h3⟩
  · exact I.lstM h
  · obtain ⟨_, z, its, n, r, e⟩ := I.hok a _ h
    exact ⟨z, its, n, r, r.length, e⟩
  · exact ⟨h2, us, m, h3, h3.length, I.kIn _ _ h1⟩

/-! ### binary operators -/
def TBin (X : Cx) (bo : BOp) : R2 := fun x y H Q => ∃ dx dy r, Px X H x dx ∧ Px X H y dy ∧ binR bo dx dy = some r ∧ ∀ v H', Nw X H H' v r → Q v H'
theorem px_int {H : Hp} {v : V} {i : Int} (h : Px X H v (.int i)) : v = .int i := by
  cases (show Rs X H v (.int i) from h); rfl
theorem px_str {H : Hp} {v : V} {i : Str} (h : Px X H v (.str i)) : v = .str i := by
  cases (show Rs X H v (.str i) from h); rfl
theorem CMul_of {i j : Int} (h : mulOk i j = true) : CMul i j := by
  unfold mulOk at h
  rw [Bool.or_eq_true, decide_eq_true_eq, decide_eq_true_eq] at h
  rcases h with h | h
  · left; omega
  · right; omega
theorem op_catL : OpR X (binaryOp .Add) (fun x y H Q => ∃ a b xs ys, x = .ref a ∧ y = .ref b ∧ LR false X.K H a xs ∧ LR false X.K H b ys ∧ xs.length + ys.length ≤ sizeLine ∧ ∀ p, H p = none → Q (.ref p) (upd H p (.lst (xs ++ ys)))) := by
  rintro pins s σ H x y v u Q I rx ry ⟨a, b, xs, ys, rfl, rfl, h1, h2, hz, q⟩
  cases rx
  cases ry
  obtain ⟨_, us, n, r, hl, e⟩ := lst_at I h1
  obtain ⟨_, ws, m, r2, hl2, e2⟩ := lst_at I h2
  refine PySem.P.add_list e e2 ?_ (by simp only [List.size_toArray]; omega)
  rw [show us.toArray ++ ws.toArray = (us ++ ws).toArray by simp]
  exact ⟨.ref _, _, I.lnew (t' := s.toks) (r.append r2) (by rw [List.length_append]; exact hz), rfl, q _ I.fresh⟩
theorem op_repL : OpR X (binaryOp .Mult) (fun x y H Q => ∃ a k xs, x = .ref a ∧ y = .int k ∧ LR false X.K H a xs ∧ -(2 ^ 63) ≤ k ∧ k < 2 ^ 63 ∧ xs.length * k.toNat ≤ sizeLine ∧
    ∀ p, H p = none → Q (.ref p) (upd H p (.lst (List.replicate k.toNat xs).flatten))) := by
  rintro pins s σ H x y v u Q I rx ry ⟨a, k, xs, rfl, rfl, h1, k1, k2, hz, q⟩
  cases rx
  obtain ⟨t, rfl⟩ := ry
  obtain ⟨_, us, n, r, hl, e⟩ := lst_at I h1
  have hlen : us.toArray.size * k.toNat ≤ sizeLine := by
    rw [List.size_toArray, ← hl]
    exact hz
  have cap : ¬ us.toArray.size * k.toNat > (2 ^ 63 - 1) / 8 := by
    have z : (sizeLine : Nat) ≤ (2 ^ 63 - 1) / 8 := by decide
    omega
  have fit : ¬ (!Builtin.List.listFitsIndex k) = true := by
    rw [fitsIndex_both k1 k2]
    decide
  have lng : ¬ Builtin.List.listTooLong (us.toArray.size * k.toNat) = true := by
    rw [notLongL hlen]
    decide
  have fold : List.foldl (fun x1 x2 => x1 ++ x2) #[] (List.replicate (if us.toArray.isEmpty = true then 0 else k.toNat) us.toArray) = (List.replicate k.toNat us).flatten.toArray := by
    cases us with
    | nil => simp
    | cons c r' =>
      rw [if_neg (by simp)]
      exact (foldl_rep _ _ []).trans (by rw [List.nil_append])
  refine wpAny_binaryOp_repeat_ref (T := "list") (U := "int") (by decide) ⟨_, e, rfl⟩ (fun s' => typeIs_int s' k t) noFill_list_mul F.fills_int_mul F.slot_int_rmul
    repeat_list F.slot_int_index.lookup (call_meets F.slot_int_rmul (typeIs_int s k t) F.entry_int_rmul (F.args_int_rmul_2 _ _) (int___rmul___int_list k t a us.toArray n)
      ⟨e, rfl, ⟨_, e, rfl⟩, call_meets F.slot_list_mul ⟨_, e, rfl⟩ F.entry_list_mul (F.args_list_mul_2 _ _) (AutoListH.list___mul___list_int_3 a us.toArray n k t fit cap lng) ⟨e, ?_⟩⟩)
  rw [fold]
  exact ⟨.ref _, _, I.lnew (t' := s.toks) (r.rep k.toNat) (by rw [PyProof.Rows.lm_len_rep_flat, Nat.mul_comm]; exact hz), rfl, q _ I.fresh⟩
end
end EV

set_option Elab.async false
set_option linter.all false
set_option maxRecDepth 100000
set_option maxHeartbeats 4000000
/-! EV7: binary operators, comparisons, parts, slices (own work). -/
namespace EV
open PySem PySem.Spec PyProof.Rows L2
theorem tup_mul1 (l : Addr) (us : Array Value) (n : Nat) (dd : Option Addr) (sl : Array (Option Value)) (u : Tok) :
    Meets (Builtin.«tuple.__mul__» ⟨[.ref l, .int 1 u], []⟩) (fun _ R s =>
      s.heap.get? l = some { cls := .type "tuple", dict := dd, data := .seq us n, slots := sl } ∧ R (.ok (.ret (.ref l))) s) :=
  .of_wp fun prog w A R s h => by
    obtain ⟨hp, g, d, tk, os⟩ := s
    obtain ⟨hl, h⟩ := h
    have f1 := AutoSeq1.idx_int
    wp_walk using wpAny_loadPart' hl
    exact ⟨_, rfl, h⟩
theorem tup_mul0 (l : Addr) (us : Array Value) (n : Nat) (dd : Option Addr) (sl : Array (Option Value)) (u : Tok) (x : Int) (h0 : x ≤ 0) (h1 : -(2 ^ 63) ≤ x) (hu : us.isEmpty = false) :
    Meets (Builtin.«tuple.__mul__» ⟨[.ref l, .int x u], []⟩) (fun _ R s =>
      s.heap.get? l = some { cls := .type "tuple", dict := dd, data := .seq us n, slots := sl } ∧
      R (.ok (.ret (Value.ref s.heap.objs.size))) { s with heap := s.heap.push { cls := Value.type "tuple", data := Data.seq #[] }, toks := s.toks }) :=
  .of_wp fun prog w A R s h => by
    obtain ⟨hp, g, d, tk, os⟩ := s
    obtain ⟨hl, h⟩ := h
    have f1 := AutoSeq1.idx_int
    have e0 : (decide (x < -(2 ^ 63)) || decide (x ≥ 2 ^ 63)) = false := by
      rw [decide_eq_false (by omega), decide_eq_false (by omega)] <;> rfl
    have e1 : (us.isEmpty || x == 1) = false := by
      rw [hu, Bool.false_or]
      exact beq_eq_false_iff_ne.mpr (by omega)
    have e2 : (decide (x ≤ 0) || us.isEmpty) = true := by
      rw [decide_eq_true h0]
      rfl
    wp_walk using wpAny_loadPart' hl
    repeat (first
      | (refine wpAny_ite_false (decide_eq_false (e0 ▸ Bool.false_ne_true)) ?_; wp_walk using wpAny_loadPart' hl)
      | (refine wpAny_ite_false (decide_eq_false (e1 ▸ Bool.false_ne_true)) ?_; wp_walk using wpAny_loadPart' hl)
      | (refine wpAny_ite_true (decide_eq_true e2) ?_; wp_walk using wpAny_loadPart' hl))
    exact ⟨_, rfl, h⟩
section
variable {X : Cx}
theorem rep_arr (us : List Value) : ∀ (m : Nat) (acc : List Value), List.foldl (fun x1 x2 => x1 ++ x2) acc.toArray (List.replicate m us.toArray) = (acc ++ (List.replicate m us).flatten).toArray
  | 0, acc => by simp
  | m + 1, acc => by
    have ih := rep_arr us m (acc ++ us)
    rw [List.replicate_succ, List.foldl_cons, List.replicate_succ, List.flatten_cons, ← List.append_assoc, ← ih]
    congr 1
    simp
theorem op_mulT : OpR X (binaryOp .Mult) (fun x y H Q => ∃ l k xs, x = .ref l ∧ y = .int k ∧ SqT X.K H l xs ∧ xs ≠ [] ∧ -(2 ^ 63) ≤ k ∧ k ≤ 1000 ∧ xs.length ≤ 1000 ∧
    (k = 1 → Q (.ref l) H) ∧ (k ≠ 1 → NewT H (List.replicate k.toNat xs).flatten Q)) := by
  rintro pins s σ H x y v u Q I rx ry ⟨l, k, xs, rfl, rfl, hT, hne, k0, k1, hz, q1, q2⟩
  cases rx
  obtain ⟨t, rfl⟩ := ry
  obtain ⟨us, r, ⟨⟨cls, dd, data, sl⟩, ho, hc, n, hd⟩, _⟩ := I.tuple hT
  simp only at hc hd
  subst hc hd
  have hl := r.length
  have hi : us.toArray.isEmpty = false := by
    cases us with
    | nil => exact absurd (r.nil_iff.mp rfl) hne
    | cons a b => rfl
  -- through int's own slot to the tuple's
  have road : wpAny (model X.prog X.w) X.A (call (.builtin "tuple.__mul__") [.ref l, .int k t]) (EP X pins σ Q) X.xe s → wpAny (model X.prog X.w) X.A (binaryOp .Mult (.ref l) (.int k t)) (EP X pins σ Q) X.xe s := fun g =>
    wpAny_binaryOp_repeat_ref (T := "tuple") (U := "int") (by decide) ⟨_, ho, rfl⟩ (fun s' => typeIs_int s' k t) noFill_tuple_mul F.fills_int_mul
      F.slot_int_rmul repeat_tuple F.slot_int_index.lookup
      (call_meets F.slot_int_rmul (typeIs_int s k t) F.entry_int_rmul (F.args_int_rmul_2 _ _) (int_rmul_tuple k t l us.toArray n dd sl) ⟨ho, rfl, ⟨_, ho, rfl⟩, g⟩)
  refine road ?_
  by_cases h1 : k = 1
  · subst h1
    exact call_meets F.slot_tuple_mul ⟨_, ho, rfl⟩ F.entry_tuple_mul (F.args_tuple_mul_2 _ _) (tup_mul1 l us.toArray n dd sl t) ⟨ho, .ref l, H, I, rfl, q1 rfl⟩
  · by_cases h2 : 2 ≤ k
    · have sz : us.toArray.size = xs.length := by rw [List.size_toArray, hl]
      have big : k.toNat * xs.length ≤ 1000 * 1000 := Nat.mul_le_mul (by omega) hz
      have prod : ((us.toArray.size : Nat) : Int) * k ≤ 1000000 := by
        rw [sz]
        have : ((xs.length : Nat) : Int) * k ≤ 1000 * k := Int.mul_le_mul_of_nonneg_right (by omega) (by omega)
        omega
      have arr := rep_arr us k.toNat []
      rw [List.nil_append] at arr
      have arr : List.foldl (fun x1 x2 => x1 ++ x2) #[] (List.replicate k.toNat us.toArray) = (List.replicate k.toNat us).flatten.toArray := arr
      have d0 : (decide (k < -(2 ^ 63)) || decide (k ≥ 2 ^ 63)) = false := by
        rw [decide_eq_false (show ¬ k < -(2 ^ 63) by omega), decide_eq_false (show ¬ k ≥ 2 ^ 63 by omega)]
        rfl
      have d1 : (us.toArray.isEmpty || k == 1) = false := by rw [hi, beq_eq_false_iff_ne.mpr h1]; rfl
      have d2 : (decide (k ≤ 0) || us.toArray.isEmpty) = false := by rw [hi, decide_eq_false (show ¬ k ≤ 0 by omega)]; rfl
      have d4 : Builtin.Tuple.tupleTooMany (((us.toArray.size : Nat) : Int) * k) = false := by
        unfold Builtin.Tuple.tupleTooMany
        rw [sizeLine_eq]
        exact decide_eq_false (by omega)
      have fl : (List.replicate k.toNat us).flatten.length ≤ sizeLine := by
        rw [PyProof.Rows.lm_len_rep_flat, ← hl, sizeLine_eq]; omega
      refine call_meets F.slot_tuple_mul ⟨_, ho, rfl⟩ F.entry_tuple_mul (F.args_tuple_mul_2 _ _) (tuple_mulW l us.toArray n dd sl k t d0 d1 d2 (by omega) d4 (by rw [arr, List.size_toArray]; exact fl)) ⟨ho, ?_⟩
      rw [arr]
      exact (q2 h1).fin (t := s.toks) I (r.rep k.toNat) (by rw [PyProof.Rows.lm_len_rep_flat, sizeLine_eq]; omega)
    · have e0 : k.toNat = 0 := by omega
      have q := q2 h1
      rw [e0] at q
      exact call_meets F.slot_tuple_mul ⟨_, ho, rfl⟩ F.entry_tuple_mul (F.args_tuple_mul_2 _ _) (tup_mul0 l us.toArray n dd sl t k (by omega) k0 hi) ⟨ho, q.fin (us := []) (ys := []) (t := s.toks) I .nil (Nat.zero_le _)⟩
/-- a rule of two ints -/
theorem bin_ii {op : Operator} {bo : BOp} {Cn : Int → Int → Prop} {g : Int → Int → Int} (ho : OpR X (binaryOp op) (rI Cn fun i j => .int (g i j)))
    {pins : List (Addr × Obj)} {s : Shared} {σ : L2.St} {H : Hp} {x y : V} {v u : Value} {Q : VK} {i j : Int} (I : Inv X pins σ H s) (rx : RelV x v) (ry : RelV y u)
    (hx : Px X H x (.int i)) (hy : Px X H y (.int j)) (hc : Cn i j) (q : ∀ v H', Nw X H H' v (.val (.int (g i j))) → Q v H') :
    wpAny (model X.prog X.w) X.A (binaryOp op v u) (EP X pins σ Q) X.xe s :=
  ho pins s σ H x y v u Q I rx ry ⟨i, j, px_int hx, px_int hy, hc, q _ _ (nw_same (.int _))⟩
theorem bin_ii0 {op : Operator} {bo : BOp} {g : Int → Int → Int} (ho : OpR X (binaryOp op) (rI0 fun i j => .int (g i j)))
    {pins : List (Addr × Obj)} {s : Shared} {σ : L2.St} {H : Hp} {x y : V} {v u : Value} {Q : VK} {i j : Int} (I : Inv X pins σ H s) (rx : RelV x v) (ry : RelV y u)
    (hx : Px X H x (.int i)) (hy : Px X H y (.int j)) (q : ∀ v H', Nw X H H' v (.val (.int (g i j))) → Q v H') :
    wpAny (model X.prog X.w) X.A (binaryOp op v u) (EP X pins σ Q) X.xe s :=
  ho pins s σ H x y v u Q I rx ry ⟨i, j, px_int hx, px_int hy, q _ _ (nw_same (.int _))⟩
theorem ite_some {c : Prop} [Decidable c] {r r' : RV} (h : (if c then some r else none) = some r') : c ∧ r = r' := by
  split at h
  · exact ⟨by assumption, Option.some.inj h⟩
  · cases h
theorem ite_someB {c : Bool} {r r' : RV} (h : (if c = true then some r else none) = some r') : c = true ∧ r = r' := ite_some h
theorem op_bin {op : Operator} {bo : BOp} (e : cOp op = some bo) : OpR X (binaryOp op) (TBin X bo) := by
  rintro pins s σ H x y v u Q I rx ry ⟨dx, dy, r, hx, hy, hb, q⟩
  cases op <;> cases e
  · -- add
    match dx, dy, hb with
    | .int i, .int j, hb => cases hb; exact bin_ii0 (bo := .add) op_add I rx ry hx hy q
    | .str a, .str b, hb =>
      obtain ⟨hz, rfl⟩ := ite_some hb
      exact op_add_str pins s σ H x y v u Q I rx ry ⟨a, b, px_str hx, px_str hy, hz, q _ _ (nw_same (.str _))⟩
    | .tuple ds, .tuple es, hb =>
      obtain ⟨hz, rfl⟩ := ite_some hb
      cases (show Rs X H x (.tuple ds) from hx) with
      | @tup a vs _ h1 h2 =>
        cases (show Rs X H y (.tuple es) from hy) with
        | @tup b ws _ h3 h4 =>
          have hl : vs.length + ws.length ≤ sizeLine := by rw [h2.length, h4.length]; exact hz
          refine opCatT pins s σ H _ _ v u Q I rx ry ⟨a, b, vs, ws, rfl, rfl, h1.sq, h3.sq, hl, fun z => ?_, fun _ z => ?_, fun _ _ => ?_⟩
          · subst z
            cases h2
            exact q _ _ (nw_same (.tup h3 h4))
          · subst z
            cases h4
            rw [List.append_nil] at q
            exact q _ _ (nw_same (.tup h1 h2))
          · exact new_tup (h2.append h4) q
    | .list ds, .list es, hb =>
      obtain ⟨hz, rfl⟩ := ite_some hb
      obtain ⟨a, vs, rfl, h1, h2⟩ := hx
      obtain ⟨b, ws, rfl, h3, h4⟩ := hy
      have hl : vs.length + ws.length ≤ sizeLine := by rw [h2.length, h4.length]; exact hz
      exact op_catL pins s σ H _ _ v u Q I rx ry ⟨a, b, vs, ws, rfl, rfl, h1, h3, hl, fun p hp => q _ _ (nw_list hp (h2.append h4))⟩
  · match dx, dy, hb with
    | .int i, .int j, hb => cases hb; exact bin_ii0 (bo := .sub) op_sub I rx ry hx hy q
  · -- mul
    match dx, dy, hb with
    | .int i, .int j, hb =>
      obtain ⟨hz, rfl⟩ := ite_someB hb
      exact bin_ii (bo := .mul) op_mul I rx ry hx hy (CMul_of hz) q
    | .list ds, .int k, hb =>
      obtain ⟨hz, rfl⟩ := ite_some hb
      obtain ⟨a, vs, rfl, h1, h2⟩ := hx
      exact op_repL pins s σ H _ _ v u Q I rx ry ⟨a, k, vs, rfl, px_int hy, h1, hz.1, hz.2.1, by rw [h2.length]; exact hz.2.2, fun p hp => q _ _ (nw_list hp (h2.rep _))⟩
    | .tuple ds, .int k, hb =>
      obtain ⟨hz, rfl⟩ := ite_some hb
      cases (show Rs X H x (.tuple ds) from hx) with
      | @tup a vs _ h1 h2 =>
        refine op_mulT pins s σ H _ _ v u Q I rx ry ⟨a, k, vs, rfl, px_int hy, h1.sq, fun z => hz.2.2.2 ?_, hz.1, hz.2.1, by rw [h2.length]; exact hz.2.2.1, fun e => ?_, fun _ => new_tup (h2.rep _) q⟩
        · subst z; cases h2; rfl
        · subst e
          have e1 : rep (1 : Int).toNat ds = ds := by
            show (List.replicate 1 ds).flatten = ds
            simp
          rw [e1] at q
          exact q _ _ (nw_same (.tup h1 h2))
  · match dx, dy, hb with
    | .int i, .int j, hb =>
      obtain ⟨hz, rfl⟩ := ite_some hb
      exact bin_ii (bo := .mod) op_mod I rx ry hx hy hz q
  · match dx, dy, hb with
    | .int i, .int j, hb =>
      obtain ⟨hz, rfl⟩ := ite_some hb
      exact bin_ii (bo := .pow) op_pow I rx ry hx hy hz q
  · match dx, dy, hb with
    | .int i, .int j, hb =>
      obtain ⟨hz, rfl⟩ := ite_some hb
      exact bin_ii (bo := .shl) op_shl I rx ry hx hy hz q
  · match dx, dy, hb with
    | .int i, .int j, hb =>
      obtain ⟨hz, rfl⟩ := ite_some hb
      exact bin_ii (bo := .shr) op_shr I rx ry hx hy hz q
  · match dx, dy, hb with
    | .int i, .int j, hb => cases hb; exact bin_ii0 (bo := .bor) op_or I rx ry hx hy q
  · match dx, dy, hb with
    | .int i, .int j, hb => cases hb; exact bin_ii0 (bo := .bxor) op_xor I rx ry hx hy q
  · match dx, dy, hb with
    | .int i, .int j, hb => cases hb; exact bin_ii0 (bo := .band) op_and I rx ry hx hy q
  · match dx, dy, hb with
    | .int i, .int j, hb =>
      obtain ⟨hz, rfl⟩ := ite_some hb
      exact bin_ii (bo := .fdiv) op_fdiv I rx ry hx hy hz q
end
end EV

set_option Elab.async false
set_option linter.all false
set_option maxRecDepth 100000
set_option maxHeartbeats 4000000
/-! EV8: comparisons, truth, parts, slices (own work). -/
namespace EV
open PySem PySem.Spec PyProof.Rows L2
section
variable {X : Cx}
/-- room for what works on data of depth 64 -/
def Roomy (X : Cx) : Prop := X.A.units + 200 < cLine ∧ X.A.handled = none ∧ X.A.guards = some []

theorem shaped_nd {d : D} (h : SeqAt.shaped d = true) : d.hasDict = false := PyData.hasDict_of_canLay d (SeqAt.canLay_of_shaped h)
theorem Rl.reads {pins : List (Addr × Obj)} {σ : L2.St} {H : Hp} {s : Shared} {st : Bool} {x : V} {u : Value} {d : D} (I : Inv X pins σ H s) (h : Rl st X.prog X.w X.K H x d) (r : RelV x u) (e : d.hasDict = false) :
    ∃ as, Reads s.heap u d as := Dp.reads I d x u (Rl.dp d h e) r
theorem canLayAll_of {ds : List D} (h : ds.all SeqAt.shaped = true) : PyData.canLayAll0 ds = true := by
  induction ds with
  | nil => rfl
  | cons d ds ih =>
    rw [List.all_cons, Bool.and_eq_true] at h
    simp only [PyData.canLayAll0, SeqAt.canLay_of_shaped h.1, ih h.2, Bool.and_self]
theorem hasDictAll_of {ds : List D} (h : ds.all SeqAt.shaped = true) : PyData.hasDictAll ds = false := by
  induction ds with
  | nil => rfl
  | cons d ds ih =>
    rw [List.all_cons, Bool.and_eq_true] at h
    simp only [PyData.hasDictAll, shaped_nd h.1, ih h.2, Bool.or_self]
theorem dict_at {pins : List (Addr × Obj)} {σ : L2.St} {H : Hp} {s : Shared} {st : Bool} {a : Addr} {kvs : List (Key × V)} (I : Inv X pins σ H s) (h : DR st X.prog X.w X.K H a kvs) :
    kvs.length ≤ sizeLine ∧ (a == sysModules) = false ∧ ∃ vs, KV kvs vs ∧ s.heap.DictOf (mixKind X.prog X.w) a vs := by
  rcases h with ⟨_, h⟩ | ⟨o, h⟩ | ⟨h1, h2, ob, es, ep, vs, e, ex, ed, hk, hp, nd, r⟩
  · exact dk_rd I.hok (.inl h)
  · exact dk_rd I.hok (.inr ⟨o, h⟩)
  · exact ⟨h2, h1, vs, r, ob, es, ep, I.kIn _ _ e, ex, ed, hk, hp, nd⟩
theorem dK_kD : ∀ q : Key, dK (kD q) = some q
  | .inl _ => rfl
  | .inr _ => rfl
theorem findK_rel {P : Program} {w : World} {K : Frg} {H : Hp} {st : Bool} (q : Key) : ∀ {kvs : List (Key × V)} {kds : List (D × D)}, RlK st P w K H kvs kds →
    (findK kds q = none ∧ valV kvs q = none) ∨ ∃ d v, findK kds q = some d ∧ valV kvs q = some v ∧ Rl st P w K H v d
  | _, _, .nil => .inl ⟨rfl, rfl⟩
  | _, _, @RlK.cons _ _ _ _ _ k v d kvs kds h t => by
    by_cases e : k = q
    · subst e
      refine .inr ⟨d, v, ?_, valV_pos rfl, h⟩
      simp [findK, dK_kD]
    · have e1 : findK ((kD k, d) :: kds) q = findK kds q := by
        simp [findK, dK_kD, e]
      rw [e1, valV_neg e]
      exact findK_rel q t
theorem key_rel {H : Hp} {x : V} {d : D} {q : Key} (h : Rv X H x d) (e : dK d = some q) : x = kV q := by
  match d, e with
  | .int i, e => cases e; cases h; rfl
  | .str i, e => cases e; cases h; rfl

def TCmp (X : Cx) (co : COp) : R2 := fun x y H Q => ∃ dx dy b, Rv X H x dx ∧ Rv X H y dy ∧ cmpR co dx dy = some b ∧ Q (.bl b) H
theorem rv_int {H : Hp} {v : V} {i : Int} (h : Rv X H v (.int i)) : v = .int i := by cases h; rfl
theorem eqD_some {x y : D} {b : Bool} (h : eqD x y = some b) : SeqAt.shaped x = true ∧ SeqAt.shaped y = true ∧ PyData.eqv x y = b := by
  unfold eqD at h
  split at h
  · rename_i e
    rw [Bool.and_eq_true] at e
    exact ⟨e.1, e.2, Option.some.inj h⟩
  · cases h
theorem room_in {d : D} {xs : List D} (hR : Roomy X) (h : SeqAt.shaped d = true) : X.A.units + 1 + min (PyData.depthAll xs) d.depth < cLine := by
  have h1 := SeqAt.depth_of_shaped h
  have h2 : min (PyData.depthAll xs) d.depth ≤ d.depth := Nat.min_le_right _ _
  have h3 := hR.1
  omega
/-- membership by data -/
theorem in_D (hR : Roomy X) {pins : List (Addr × Obj)} {s : Shared} {σ : L2.St} {H : Hp} {x y : V} {v u : Value} {dx dy : D} {b : Bool} (I : Inv X pins σ H s) (rx : RelV x v) (ry : RelV y u)
    (hx : Rv X H x dx) (hy : Rv X H y dy) (e : inD dx dy = some b) :
    (∀ Q : VK, Q (.bl b) H → wpAny (model X.prog X.w) X.A (compareOp .In v u) (EP X pins σ Q) X.xe s) ∧
    ∀ Q : VK, Q (.bl (!b)) H → wpAny (model X.prog X.w) X.A (compareOp .NotIn v u) (EP X pins σ Q) X.xe s := by
  match dy, e with
  | .list ys, e =>
    have e : (if SeqAt.shaped dx && ys.all SeqAt.shaped then some (ys.any fun d => PyData.eqv d dx) else none) = some b := e
    split at e
    · rename_i hs
      cases e
      rw [Bool.and_eq_true] at hs
      obtain ⟨as, r1⟩ := hy.reads I ry (by simpa [PyData.hasDict] using hasDictAll_of hs.2)
      obtain ⟨bs, r2⟩ := hx.reads I rx (shaped_nd hs.1)
      exact ⟨fun Q q => SeqAt.in_list_reads r1 r2 (canLayAll_of hs.2) (SeqAt.canLay_of_shaped hs.1) (room_in hR hs.1) ⟨.bl _, H, I, rfl, q⟩,
        fun Q q => SeqAt.notIn_list_reads r1 r2 (canLayAll_of hs.2) (SeqAt.canLay_of_shaped hs.1) (room_in hR hs.1) ⟨.bl _, H, I, rfl, q⟩⟩
    · cases e
  | .tuple ys, e =>
    have e : (if SeqAt.shaped dx && ys.all SeqAt.shaped then some (ys.any fun d => PyData.eqv d dx) else none) = some b := e
    split at e
    · rename_i hs
      cases e
      rw [Bool.and_eq_true] at hs
      obtain ⟨as, r1⟩ := hy.reads I ry (by simpa [PyData.hasDict] using hasDictAll_of hs.2)
      obtain ⟨bs, r2⟩ := hx.reads I rx (shaped_nd hs.1)
      exact ⟨fun Q q => SeqAt.in_tuple_reads r1 r2 (canLayAll_of hs.2) (SeqAt.canLay_of_shaped hs.1) (room_in hR hs.1) ⟨.bl _, H, I, rfl, q⟩,
        fun Q q => SeqAt.notIn_tuple_reads r1 r2 (canLayAll_of hs.2) (SeqAt.canLay_of_shaped hs.1) (room_in hR hs.1) ⟨.bl _, H, I, rfl, q⟩⟩
    · cases e
  | .dict kds, e =>
    cases hq : dK dx with
    | none => simp [inD, hq] at e
    | some q =>
      have e : (if plainKs kds then some (hasK kds q) else none) = some b := by simpa [inD, hq] using e
      split at e
      · cases e
        obtain rfl := key_rel hx hq
        cases hy with
        | @dct a kvs _ h1 h2 =>
          cases ry
          obtain ⟨hz, hd, vs, rel, dd⟩ := dict_at I h1
          have hb : (valueAt vs q).isSome = hasK kds q := by
            rw [← (rel.val q).isSome_eq]
            unfold hasK
            rcases findK_rel q h2 with ⟨e1, e2⟩ | ⟨d, v, e1, e2, _⟩ <;> rw [e1, e2] <;> rfl
          refine ⟨fun Q q' => wpAny_in_of (kV_is rx) hd dd.mapOf ?_, fun Q q' => wpAny_notIn_of (kV_is rx) hd dd.mapOf ?_⟩
          · rw [hb]
            exact ⟨.bl _, H, I.tok _, rfl, q'⟩
          · rw [hb]
            exact ⟨.bl _, H, I.tok _, rfl, q'⟩
      · cases e
  | .none, e => simp [inD] at e
  | .bool _, e => simp [inD] at e
  | .int _, e => simp [inD] at e
  | .str _, e => simp [inD] at e
theorem isN_rel {H : Hp} {x : V} {d : D} (h : Rv X H x d) : decide (x = .non) = (match d with | .none => true | _ => false) := by
  cases h <;> rfl
theorem op_cmp (hR : Roomy X) {op : CmpOp} {co : COp} (e : cCmp op = some co) : OpR X (compareOp op) (TCmp X co) := by
  rintro pins s σ H x y v u Q I rx ry ⟨dx, dy, b, hx, hy, hb, q⟩
  have r64 : X.A.units + 64 < cLine := by have := hR.1; omega
  cases op <;> cases e
  · -- eq
    obtain ⟨s1, s2, rfl⟩ := eqD_some hb
    exact op_eqD r64 pins s σ H x y v u Q I rx ry ⟨dx, dy, Rl.dp _ hx (shaped_nd s1), Rl.dp _ hy (shaped_nd s2), s1, s2, q⟩
  · obtain ⟨b', hb', rfl⟩ := Option.map_eq_some_iff.mp (show (eqD dx dy).map (!·) = some b from hb)
    obtain ⟨s1, s2, rfl⟩ := eqD_some hb'
    exact op_neD r64 pins s σ H x y v u Q I rx ry ⟨dx, dy, Rl.dp _ hx (shaped_nd s1), Rl.dp _ hy (shaped_nd s2), s1, s2, q⟩
  · match dx, dy, hb with
    | .int i, .int j, hb => cases hb; exact op_lt pins s σ H x y v u Q I rx ry ⟨i, j, rv_int hx, rv_int hy, q⟩
  · match dx, dy, hb with
    | .int i, .int j, hb => cases hb; exact op_le pins s σ H x y v u Q I rx ry ⟨i, j, rv_int hx, rv_int hy, q⟩
  · match dx, dy, hb with
    | .int i, .int j, hb => cases hb; exact op_gt pins s σ H x y v u Q I rx ry ⟨i, j, rv_int hx, rv_int hy, q⟩
  · match dx, dy, hb with
    | .int i, .int j, hb => cases hb; exact op_ge pins s σ H x y v u Q I rx ry ⟨i, j, rv_int hx, rv_int hy, q⟩
  · match dy, hb with
    | .none, hb =>
      cases hy
      refine op_isN pins s σ H x _ v u Q I rx ry ⟨rfl, ?_⟩
      rw [isN_rel hx]
      cases dx <;> cases hb <;> exact q
    | .bool _, hb => cases dx <;> cases hb
    | .int _, hb => cases dx <;> cases hb
    | .str _, hb => cases dx <;> cases hb
    | .list _, hb => cases dx <;> cases hb
    | .tuple _, hb => cases dx <;> cases hb
    | .dict _, hb => cases dx <;> cases hb
  · match dy, hb with
    | .none, hb =>
      cases hy
      refine op_notN pins s σ H x _ v u Q I rx ry ⟨rfl, ?_⟩
      rw [isN_rel hx]
      cases dx <;> cases hb <;> exact q
    | .bool _, hb => cases dx <;> cases hb
    | .int _, hb => cases dx <;> cases hb
    | .str _, hb => cases dx <;> cases hb
    | .list _, hb => cases dx <;> cases hb
    | .tuple _, hb => cases dx <;> cases hb
    | .dict _, hb => cases dx <;> cases hb
  · exact (in_D hR I rx ry hx hy hb).1 Q q
  · obtain ⟨b', hb', rfl⟩ := Option.map_eq_some_iff.mp (show (inD dx dy).map (!·) = some b from hb)
    exact (in_D hR I rx ry hx hy hb').2 Q q

/-! ### truth -/
theorem tru_D {pins : List (Addr × Obj)} {s : Shared} {σ : L2.St} {H : Hp} {x : V} {v : Value} {d : D} {b : Bool} {Q : Bool → Hp → Prop} (I : Inv X pins σ H s) (rx : RelV x v) (hx : Rv X H x d) (e : truthD d = some b) (q : Q b H) :
    wpAny (model X.prog X.w) X.A (truthy v) (TP X pins σ Q) X.xe s := by
  have go : ∀ k, TruV X.K x H k → k = b → wpAny (model X.prog X.w) X.A (truthy v) (TP X pins σ Q) X.xe s := fun k t ek => tru_ok pins s σ H x v Q I rx ⟨k, t, ek ▸ q⟩
  cases hx with
  | non => exact go false rfl (Option.some.inj e)
  | bl k => exact go k rfl (Option.some.inj e)
  | int i => exact go _ rfl (Option.some.inj e)
  | str y =>
    have e : (if y.length ≤ sizeLine then some ((y.length : Int) != 0) else none) = some b := e
    split at e
    · exact go _ ⟨by assumption, rfl⟩ (Option.some.inj e)
    · cases e
  | lst h1 h2 =>
    have e : some (!List.isEmpty _) = some b := e
    exact go _ (.inl ⟨_, h1.sq, rfl⟩) (by rw [← Option.some.inj e]; cases h2 <;> rfl)
  | tup h1 h2 =>
    have e : some (!List.isEmpty _) = some b := e
    exact go _ (.inr (.inl ⟨_, h1.sq, rfl⟩)) (by rw [← Option.some.inj e]; cases h2 <;> rfl)
  | @dct a kvs kds h1 h2 =>
    have e : (if isDct kds then some (!kds.isEmpty) else none) = some b := e
    split at e
    · cases rx
      obtain ⟨hz, hd, vs, rel, dd⟩ := dict_at I h1
      refine wpAny_truthy_dict hd dd (by rw [← rel.length]; rw [sizeLine_eq] at hz; omega) ⟨H, I.tok _, ?_⟩
      rw [isEmpty_kv rel, ← (show (!kds.isEmpty) = !kvs.isEmpty by cases h2 <;> rfl), Option.some.inj e]
      exact q
    · cases e

/-! ### a part -/
/-- an operand: what it is now -/
def OpOk (X : Cx) (H : Hp) (F : List Addr) (v : V) : RV → Prop
  | .val d => Rs X H v d
  | .own o => Rs X H v (fz o)
  | .brw o => ∃ B, Ow X.prog X.w X.K H v o B ∧ ∀ a ∈ B, a ∈ F
theorem OpOk.rv {H : Hp} {F : List Addr} {v : V} : ∀ {r : RV}, OpOk X H F v r → Rv X H v r.view
  | .val d, h => Rl.weak d h
  | .own o, h => Rl.weak (fz o) h
  | .brw o, ⟨_, h, _⟩ => Ow.view o h
theorem immL_some : ∀ {os : List O} {ds : List D}, immL os = some ds → os = ds.map .imm
  | [], ds, h => by cases h; rfl
  | .imm d :: os, ds, h => by
    obtain ⟨ds', h', rfl⟩ := Option.map_eq_some_iff.mp (show (immL os).map (d :: ·) = some ds from h)
    rw [immL_some h']
    rfl
  | .lst _ :: os, ds, h => by cases h
  | .dct _ :: os, ds, h => by cases h
theorem ows_of {P : Program} {w : World} {K : Frg} {H : Hp} : ∀ {vs : List V} {ds : List D} {F : List Addr}, Ows P w K H vs (ds.map .imm) F → RlA true P w K H vs ds
  | _, [], _, h => by cases h; exact .nil
  | _, d :: ds, _, h => by
    cases h with
    | cons h1 h2 h3 =>
      cases h1 with
      | imm h1 => exact .cons h1 (ows_of h2)
theorem immK_some : ∀ {kos : List (Key × O)} {kds : List (D × D)} {kvs : List (Key × V)} {H : Hp} {F : List Addr}, immK kos = some kds → Owk X.prog X.w X.K H kvs kos F → RlK true X.prog X.w X.K H kvs kds
  | [], kds, kvs, H, F, h, o => by cases h; cases o; exact .nil
  | (k, .imm d) :: kos, kds, kvs, H, F, h, o => by
    obtain ⟨kds', h', rfl⟩ := Option.map_eq_some_iff.mp (show (immK kos).map ((kD k, d) :: ·) = some kds from h)
    cases o with
    | cons h1 h2 h3 =>
      cases h1 with
      | imm h1 => exact .cons h1 (immK_some h' h2)
  | (_, .lst _) :: _, _, _, _, _, h, _ => by cases h
  | (_, .dct _) :: _, _, _, _, _, h, _ => by cases h
theorem OpOk.px {H : Hp} {F : List Addr} {v : V} {r : RV} {d : D} (h : OpOk X H F v r) (e : r.parts = some d) : Px X H v d := by
  match r, h, e with
  | .val d', h, e => cases e; exact Px.of_rs h
  | .own o, h, e => cases e; exact Px.of_rs h
  | .brw (.imm d'), ⟨_, h, _⟩, e =>
    cases e
    cases h with
    | imm h => exact Px.of_rs h
  | .brw (.lst os), ⟨_, h, _⟩, e =>
    obtain ⟨ds, e1, rfl⟩ := Option.map_eq_some_iff.mp (show (immL os).map PyData.list = some d from e)
    obtain rfl := immL_some e1
    cases h with
    | lst h1 h2 h3 => exact ⟨_, _, rfl, .inl ⟨rfl, h1⟩, ows_of h2⟩
  | .brw (.dct kos), ⟨_, h, _⟩, e =>
    obtain ⟨kds, e1, rfl⟩ := Option.map_eq_some_iff.mp (show (immK kos).map PyData.dict = some d from e)
    cases h with
    | dct h1 h2 h3 h4 => exact ⟨_, _, rfl, .inl ⟨rfl, h1⟩, immK_some e1 h2⟩
/-- what a part is -/
def PtOk (X : Cx) (H : Hp) (F : List Addr) (v : V) : RV → Prop
  | .val d => Rs X H v d
  | .own _ => False
  | .brw o => ∃ B, Ow X.prog X.w X.K H v o B ∧ ∀ a ∈ B, a ∈ F
def TIdx (X : Cx) : R2 := fun x y H Q => ∃ F r k r', OpOk X H F x r ∧ Rs X H y k ∧ idxR r k = some r' ∧ ∀ v, PtOk X H F v r' → Q v H
theorem idx_seq {pins : List (Addr × Obj)} {s : Shared} {σ : L2.St} {H : Hp} {a : Addr} {i : Int} {v u : Value} {z : V} {vs : List V} {Q : VK} {value slice : Expr} (I : Inv X pins σ H s) (rx : RelV (.ref a) v) (ry : RelV (.int i) u)
    (h : SqL X.K H a vs ∨ SqT X.K H a vs) (e : atI vs i = some z) (q : Q z H) (hs : subscripted slice false v u = operate [v, u] (getItem v u)) :
    wpAny (model X.prog X.w) X.A (subscriptTail value slice v u) (EP X pins σ Q) X.xe s := by
  rcases h with h | h
  · exact ix_list value slice pins s σ H _ _ v u Q I rx ry ⟨a, vs, i, z, rfl, rfl, h, e, q⟩ hs
  · exact ix_tup value slice pins s σ H _ _ v u Q I rx ry ⟨a, vs, i, z, rfl, rfl, h, e, q⟩ hs
theorem idx_dict {pins : List (Addr × Obj)} {s : Shared} {σ : L2.St} {H : Hp} {a : Addr} {k : Key} {v u : Value} {z : V} {kvs : List (Key × V)} {Q : VK} {value slice : Expr} (I : Inv X pins σ H s) (rx : RelV (.ref a) v) (ry : RelV (kV k) u)
    (h : DR false X.prog X.w X.K H a kvs) (e : valV kvs k = some z) (q : Q z H) (hs : subscripted slice false v u = operate [v, u] (getItem v u)) :
    wpAny (model X.prog X.w) X.A (subscriptTail value slice v u) (EP X pins σ Q) X.xe s := by
  cases rx
  obtain ⟨hz, hd, vs, rel, dd⟩ := dict_at I h
  obtain ⟨w', hw, rw'⟩ := RelO.some_of (v := z) (o := valueAt vs k) (by rw [← e]; exact rel.val k)
  exact tail_any dd.mapOf.typeIs slot_dict_getitem.lookup (wpAny_getItem_of (kV_is ry) dd.mapOf hw ⟨z, H, I.tok _, rw', q⟩) hs
theorem ix_D : IxR X (TIdx X) := by
  rintro value slice pins s σ H x y v u Q I rx ry ⟨FF, r, k, r', hx, hy, e, q⟩ hs
  -- by stable data
  have data : ∀ d, Rs X H x d → (idxD d k).map RV.val = some r' → wpAny (model X.prog X.w) X.A (subscriptTail value slice v u) (EP X pins σ Q) X.xe s := by
    intro d hd e
    obtain ⟨d', ed, er⟩ := Option.map_eq_some_iff.mp e
    subst er
    match d, k, ed with
    | .list ds, .int i, ed =>
      have e : atI ds i = some d' := ed
      cases hy
      cases hd with
      | @lst a vs _ h1 h2 =>
        obtain ⟨j, e1, e2⟩ := of_atI e
        obtain ⟨z, e3, hz⟩ := h2.get e2
        exact idx_seq I rx ry (.inl h1.sq) (atI_of (by rw [h2.length]; exact e1) e3) (q z hz) hs
    | .tuple ds, .int i, ed =>
      have e : atI ds i = some d' := ed
      cases hy
      cases hd with
      | @tup a vs _ h1 h2 =>
        obtain ⟨j, e1, e2⟩ := of_atI e
        obtain ⟨z, e3, hz⟩ := h2.get e2
        exact idx_seq I rx ry (.inr h1.sq) (atI_of (by rw [h2.length]; exact e1) e3) (q z hz) hs
    | .dict kds, k, ed =>
      have e : (if plainKs kds then (dK k).bind (findK kds) else none) = some d' := by
        cases k <;> exact ed
      split at e
      · obtain ⟨kk, e1, e2⟩ := Option.bind_eq_some_iff.mp e
        obtain rfl := key_rel (Rl.weak _ hy) e1
        cases hd with
        | @dct a kvs _ h1 h2 =>
          rcases findK_rel kk h2 with ⟨e3, _⟩ | ⟨d2, z, e3, e4, hz⟩
          · rw [e3] at e2; cases e2
          · rw [e3] at e2; cases e2
            exact idx_dict I rx ry h1.weak e4 (q z hz) hs
      · cases e
  match r, hx, e with
  | .val d, hx, e => exact data d hx e
  | .own o, hx, e => exact data (fz o) hx e
  | .brw o, ⟨F, ho, sF⟩, e =>
    obtain ⟨o1, e1, rfl⟩ := Option.map_eq_some_iff.mp (show (o.at k).map ofO = some r' from e)
    obtain ⟨v1, F1, at_, ow1, s1, _⟩ := ho.at e1
    have qq : Q v1 H := by
      refine q v1 ?_
      cases o1 with
      | imm d => cases ow1 with | imm h => exact h
      | lst _ => exact ⟨F1, ow1, fun a ha => sF a (s1 a ha)⟩
      | dct _ => exact ⟨F1, ow1, fun a ha => sF a (s1 a ha)⟩
    rcases at_ with ⟨a, vs, i, rfl, h1, rfl, e2⟩ | ⟨a, kvs, kk, rfl, h1, e3, e2⟩
    · cases hy
      exact idx_seq I rx ry (.inl (.inl (.inl h1))) e2 qq hs
    · obtain rfl := key_rel (Rl.weak _ hy) e3
      exact idx_dict I rx ry (.inl ⟨rfl, h1⟩) e2 qq hs
/-! ### slices -/
theorem cut_eq (xs : List V) (lo hi : Option Int) : cutV xs lo hi = (xs.drop (HT.sIx xs.length 0 lo)).take (HT.sIx xs.length xs.length hi - HT.sIx xs.length 0 lo) := rfl
theorem cut_rel {P : Program} {w : World} {K : Frg} {H : Hp} {vs : List V} {ds : List D} (h : RlA true P w K H vs ds) (lo hi : Option Int) : RlA true P w K H (cutV vs lo hi) (cut ds lo hi) := by
  rw [cut_eq]
  unfold cut
  rw [h.length]
  exact (h.drop _).take _
def TSl (X : Cx) : V → Option Int → Option Int → Hp → VK → Prop := fun x lo hi H Q => ∃ d r, Px X H x d ∧ slcR d lo hi = some r ∧ ∀ v H', Nw X H H' v r → Q v H'
theorem sl_some {x : D} {lo hi : Option Int} {r : RV} (e : slcR x lo hi = some r) : (∃ ds, x = .list ds ∧ r = .own (ofL (cut ds lo hi))) ∨ ∃ ds, x = .tuple ds ∧ r = .val (.tuple (cut ds lo hi)) := by
  unfold slcR at e
  split at e
  · exact .inl ⟨_, rfl, (Option.some.inj e).symm⟩
  · exact .inr ⟨_, rfl, (Option.some.inj e).symm⟩
  · cases e
theorem sl_D : SlR X (TSl X) := by
  intro pins s σ H x v vl vu lo hi sl Q I rx hs pl pu h
  obtain ⟨d, r, hx, e, q⟩ := h
  rcases sl_some e with ⟨ds, rfl, rfl⟩ | ⟨ds, rfl, rfl⟩
  · obtain ⟨a, vs, rfl, h1, h2⟩ := hx
    exact sl_list pins s σ H _ v vl vu lo hi sl Q I rx hs pl pu ⟨a, vs, rfl, h1.sq, fun p hp => q _ _ (nw_list hp (cut_rel h2 lo hi))⟩
  · have hx : Rs X H x (.tuple ds) := hx
    cases hx with
    | @tup a vs _ h1 h2 =>
      have whole : HT.sIx vs.length 0 lo = 0 ∧ HT.sIx vs.length vs.length hi = vs.length → cut ds lo hi = ds := fun z => by
        have hl := h2.length
        unfold cut
        rw [← hl, z.1, z.2, Nat.sub_zero, List.drop_zero]
        exact List.take_of_length_le (Nat.le_of_eq hl.symm)
      refine slTup pins s σ H _ v vl vu lo hi sl Q I rx hs pl pu ⟨a, vs, rfl, h1.sq, fun z => ?_, fun _ => new_tup (cut_rel h2 lo hi) q⟩
      rw [whole z] at q
      exact q _ _ (nw_same (.tup h1 h2))
end
end EV

set_option Elab.async false
set_option linter.all false
set_option maxRecDepth 100000
set_option maxHeartbeats 1000000
/-! EV9: what an evaluated piece keeps; readings (own work). -/
namespace EV
open PySem PySem.Spec PyProof.Rows L2
section
variable {X : Cx} {σ : L2.St}
/-- behind a piece: the locals, what is kept; p: nothing of the locals is touched -/
structure Aft (X : Cx) (σ : L2.St) (p : Bool) (H : Hp) (env : Ev) (F : List Addr) (H' : Hp) (env' : Ev) (F' : List Addr) : Prop where
  ok : EnvOk X.prog X.w X.K H' σ env' F'
  sub : ∀ a ∈ F', a ∈ F ∨ H a = none
  but : But F H H'
  nn : ∀ b, H b ≠ none → H' b ≠ none
  stb : Stb H H'
  pur : p = true → env' = env ∧ F' = F ∧ ∀ a ∈ F, H' a = H a
theorem Aft.refl {p : Bool} {H : Hp} {env : Ev} {F : List Addr} (h : EnvOk X.prog X.w X.K H σ env F) : Aft X σ p H env F H env F :=
  ⟨h, fun a ha => .inl ha, But.refl _ _, fun _ z => z, Stb.refl _, fun _ => ⟨rfl, rfl, fun _ _ => rfl⟩⟩
theorem Aft.trans {p q r : Bool} {H H1 H2 : Hp} {env e1 e2 : Ev} {F F1 F2 : List Addr} (a : Aft X σ p H env F H1 e1 F1) (b : Aft X σ q H1 e1 F1 H2 e2 F2) (hr : r = true → p = true ∧ q = true) : Aft X σ r H env F H2 e2 F2 := by
  refine ⟨b.ok, fun x hx => ?_, fun x hx hn => ?_, fun x hn => b.nn x (a.nn x hn), a.stb.trans b.stb, fun z => ?_⟩
  · rcases b.sub x hx with z | z
    · exact a.sub x z
    · cases e : H x with
      | none => exact .inr rfl
      | some u => exact absurd z (a.nn x (by rw [e]; simp))
  · have e1 := a.but x hx hn
    rw [b.but x (fun z => ?_) (a.nn x hn), e1]
    rcases a.sub x z with q | q
    · exact hx q
    · exact hn q
  · obtain ⟨hp, hq⟩ := hr z
    obtain ⟨r1, r2, r3⟩ := a.pur hp
    obtain ⟨s1, s2, s3⟩ := b.pur hq
    subst r1; subst r2
    exact ⟨s1, s2, fun x hx => (s3 x hx).trans (r3 x hx)⟩
/-- new things come -/
theorem Aft.more {p : Bool} {H H1 H2 : Hp} {env e1 : Ev} {F F1 : List Addr} (a : Aft X σ p H env F H1 e1 F1) (s : Same H1 H2) : Aft X σ p H env F H2 e1 F1 := by
  have nn : ∀ b, H1 b ≠ none → H2 b = H1 b := fun b hn => by
    cases e : H1 b with
    | none => exact absurd e hn
    | some u => exact s b u e
  have k1 : ∀ x ∈ F1, H2 x = H1 x := fun x hx => nn x (a.ok.foot x hx).ne
  have b : Aft X σ true H1 e1 F1 H2 e1 F1 := ⟨a.ok.keep (Stb.of_same s) k1, fun x hx => .inl hx, fun x hx hn => nn x hn, fun x hn => by rw [nn x hn]; exact hn, Stb.of_same s, fun _ => ⟨rfl, rfl, k1⟩⟩
  exact a.trans b fun z => ⟨z, rfl⟩
theorem Aft.imp {p q : Bool} {H H' : Hp} {env env' : Ev} {F F' : List Addr} (a : Aft X σ p H env F H' env' F') (h : q = true → p = true) : Aft X σ q H env F H' env' F' :=
  ⟨a.ok, a.sub, a.but, a.nn, a.stb, fun z => a.pur (h z)⟩
/-- a piece's value; G: what is the value's own -/
def RvO (X : Cx) (H : Hp) (F : List Addr) (v : V) (r : RV) (G : List Addr) : Prop :=
  match r with
  | .val d => G = [] ∧ Rs X H v d
  | .own o => Ow X.prog X.w X.K H v o G
  | .brw o => G = [] ∧ ∃ B, Ow X.prog X.w X.K H v o B ∧ ∀ a ∈ B, a ∈ F
theorem RvO.foot {H : Hp} {F : List Addr} {v : V} {r : RV} {G : List Addr} (h : RvO X H F v r G) : ∀ a ∈ G, IsMut H a := by
  match r, h with
  | .val d, h => rw [h.1]; simp
  | .own o, h => exact Ow.foot o h
  | .brw o, h => rw [h.1]; simp
/-- G lies apart from F', and is of F or new -/
structure Apart (H : Hp) (F F' G : List Addr) : Prop where
  off : ∀ a ∈ G, a ∉ F'
  sub : ∀ a ∈ G, a ∈ F ∨ H a = none
theorem Apart.nil {H : Hp} {F F' : List Addr} : Apart H F F' [] := ⟨fun a h => by simp at h, fun a h => by simp at h⟩
/-- a value that waits while another piece runs -/
theorem RvO.keep {p : Bool} {H1 H2 : Hp} {e1 e2 : Ev} {F1 F2 : List Addr} {v : V} {r : RV} {G : List Addr} (h : RvO X H1 F1 v r G) (a : Aft X σ p H1 e1 F1 H2 e2 F2) (off : ∀ a ∈ G, a ∉ F1) (hb : r.isBrw = true → p = true) :
    RvO X H2 F2 v r G ∧ ∀ a ∈ G, a ∉ F2 := by
  have kG : ∀ x ∈ G, H2 x = H1 x := fun x hx => a.but x (off x hx) (h.foot x hx).ne
  refine ⟨?_, fun x hx hz => ?_⟩
  · match r, h with
    | .val d, h => exact ⟨h.1, Rl.stb a.stb d h.2⟩
    | .own o, h => exact Ow.keep a.stb o h kG
    | .brw o, ⟨hG, B, h, sB⟩ =>
      obtain ⟨_, r2, r3⟩ := a.pur (hb rfl)
      exact ⟨hG, B, Ow.keep a.stb o h fun x hx => r3 x (sB x hx), fun x hx => by rw [r2]; exact sB x hx⟩
  · rcases a.sub x hz with z | z
    · exact off x hx z
    · exact (h.foot x hx).ne z
/-- what was new at a later piece is of F or new at the first -/
theorem Apart.back {p : Bool} {H H1 : Hp} {e e1 : Ev} {F F1 F2 G : List Addr} (a : Aft X σ p H e F H1 e1 F1) (h : Apart H1 F1 F2 G) : Apart H F F2 G := by
  refine ⟨h.off, fun x hx => ?_⟩
  rcases h.sub x hx with z | z
  · exact a.sub x z
  · cases e : H x with
    | none => exact .inr rfl
    | some u => exact absurd z (a.nn x (by rw [e]; simp))
/-- a new value -/
theorem nw_fin {p : Bool} {H H1 H2 : Hp} {env e1 : Ev} {F F1 : List Addr} {v : V} {r : RV} (a : Aft X σ p H env F H1 e1 F1) (n : Nw X H1 H2 v r) :
    ∃ G, Aft X σ p H env F H2 e1 F1 ∧ RvO X H2 F1 v r G ∧ Apart H F F1 G := by
  obtain ⟨s, n⟩ := n
  have a2 := a.more s
  match r, n with
  | .val d, n => exact ⟨[], a2, ⟨rfl, n⟩, Apart.nil⟩
  | .own o, ⟨G, n, nw⟩ =>
    exact ⟨G, a2, n, fun x hx z => (a.ok.foot x z).ne (nw x hx), fun x hx => by
      cases e : H x with
      | none => exact .inr rfl
      | some u => exact absurd (nw x hx) (a.nn x (by rw [e]; simp))⟩

/-- a piece's reading: f the piece in the small language, Rel the values' -/
def Tg {α β : Type} (X : Cx) (f : Ev → Option (α × Ev)) (p : Bool) (Rel : Hp → List Addr → β → α → List Addr → Prop) : L2.St → Hp → (β → Hp → Prop) → Prop :=
  fun σ H Q => ∃ env F r env', EnvOk X.prog X.w X.K H σ env F ∧ f env = some (r, env') ∧ ∀ b H' F' G, Aft X σ p H env F H' env' F' → Rel H' F' b r G → Apart H F F' G → Q b H'
abbrev TEv (X : Cx) (C : Cfg) (e : CE) : TE := Tg X (ev C e) (pureE e) (RvO X)
/-- the value handed over for good, or looked at -/
def OpO (X : Cx) (H : Hp) (F : List Addr) (v : V) (r : RV) (G : List Addr) : Prop := G = [] ∧ OpOk X H F v r
abbrev TOp (X : Cx) (C : Cfg) (e : CE) : TE := Tg X (ev C e) (pureE e) (OpO X)
theorem OpOk.keep {p : Bool} {H1 H2 : Hp} {e1 e2 : Ev} {F1 F2 : List Addr} {v : V} {r : RV} (h : OpOk X H1 F1 v r) (a : Aft X σ p H1 e1 F1 H2 e2 F2) (hb : r.isBrw = true → p = true) : OpOk X H2 F2 v r := by
  match r, h with
  | .val d, h => exact Rl.stb a.stb d h
  | .own o, h => exact Rl.stb a.stb (fz o) h
  | .brw o, ⟨B, h, sB⟩ =>
    obtain ⟨_, r2, r3⟩ := a.pur (hb rfl)
    exact ⟨B, Ow.keep a.stb o h fun x hx => r3 x (sB x hx), fun x hx => by rw [r2]; exact sB x hx⟩
/-- the ghost step: an own value is handed over for good -/
theorem RvO.frz {pins : List (Addr × Obj)} {σ' : L2.St} {s : Shared} {p : Bool} {H H' : Hp} {env env' : Ev} {F F' : List Addr} {v : V} {r : RV} {G : List Addr} (I : Inv X pins σ' H' s) (a : Aft X σ p H env F H' env' F') (h : RvO X H' F' v r G) (ap : Apart H F F' G) :
    ∃ H2, Inv X pins σ' H2 s ∧ Aft X σ p H env F H2 env' F' ∧ OpOk X H2 F' v r ∧ ∀ x ∈ F', H2 x = H' x := by
  match r, h with
  | .val d, h => exact ⟨H', I, a, h.2, fun _ _ => rfl⟩
  | .brw o, ⟨_, h⟩ => exact ⟨H', I, a, h, fun _ _ => rfl⟩
  | .own o, h =>
    obtain ⟨H2, I2, rl, b, st, nn, fr⟩ := Ow.freeze o I h
    have kF : ∀ x ∈ F', H2 x = H' x := fun x hx => b x (fun z => ap.off x z hx) (a.ok.foot x hx).ne
    refine ⟨H2, I2, ⟨a.ok.keep st kF, a.sub, fun x hx hn => ?_, fun x hn => ?_, a.stb.trans st, fun z => ?_⟩, rl, kF⟩
    · rw [b x (fun z => ?_) (a.nn x hn), a.but x hx hn]
      rcases ap.sub x z with q | q
      · exact hx q
      · exact hn q
    · by_cases z : x ∈ G
      · exact nn x z
      · rw [b x z (a.nn x hn)]
        exact a.nn x hn
    · obtain ⟨r1, r2, r3⟩ := a.pur z
      subst r2
      exact ⟨r1, rfl, fun x hx => (kF x hx).trans (r3 x hx)⟩
theorem _root_.L2.PE.op {C : Cfg} {e : Expr} {ce : CE} (h : PE X e (TEv X C ce)) : PE X e (TOp X C ce) := by
  refine ⟨fun pins s σ H Q I hw => ?_⟩
  obtain ⟨env, F, r, env', ho, he, q⟩ := hw
  refine thn (h.run pins s σ H (fun v H' => ∃ F' G, Aft X σ (pureE ce) H env F H' env' F' ∧ RvO X H' F' v r G ∧ Apart H F F' G) I
    ⟨env, F, r, env', ho, he, fun v H' F' G a b c => ⟨F', G, a, b, c⟩⟩) fun u s1 ⟨v, H1, I1, rv, F', G, a, b, c⟩ => ?_
  obtain ⟨H2, I2, a2, o2, _⟩ := b.frz I1 a c
  exact ⟨v, H2, I2, rv, q v H2 F' [] a2 ⟨rfl, o2⟩ Apart.nil⟩
/-- a reading that asks for more is kept too -/
theorem _root_.L2.PE.of {e : Expr} {t t' : TE} (h : PE X e t) (hi : ∀ σ H Q, t' σ H Q → t σ H Q) : PE X e t' := ⟨fun pins s σ H Q I hw => h.run pins s σ H Q I (hi σ H Q hw)⟩
theorem _root_.L2.PT.of {e : Expr} {t t' : TT} (h : PT X e t) (hi : ∀ σ H Q, t' σ H Q → t σ H Q) : PT X e t' := ⟨fun pins s σ H Q I hw => h.run pins s σ H Q I (hi σ H Q hw)⟩
theorem _root_.L2.PA.of {e : List Expr} {t t' : TA} (h : PA X e t) (hi : ∀ σ H Q, t' σ H Q → t σ H Q) : PA X e t' := ⟨fun pos pins s σ H Q I hw => h.run pos pins s σ H Q I (hi σ H Q hw)⟩
theorem _root_.L2.PS.of {e : Stmt} {t t' : TS} (h : PS X e t) (hi : ∀ D σ H, t' D σ H → t D σ H) : PS X e t' := ⟨fun pins s σ H D I hw => h.run pins s σ H D I (hi D σ H hw)⟩
theorem _root_.L2.PSs.of {e : List Stmt} {t t' : TS} (h : PSs X e t) (hi : ∀ D σ H, t' D σ H → t D σ H) : PSs X e t' := ⟨fun pins s σ H D I hw => h.run pins s σ H D I (hi D σ H hw)⟩
/-- one piece after another -/
theorem Tg.seq {α β : Type} {f : Ev → Option (α × Ev)} {p : Bool} {Rel : Hp → List Addr → β → α → List Addr → Prop} {H : Hp} {K : β → Hp → Prop} {env : Ev} {F : List Addr} {r : α} {e1 : Ev}
    (ho : EnvOk X.prog X.w X.K H σ env F) (he : f env = some (r, e1)) (k : ∀ b H1 F1 G, Aft X σ p H env F H1 e1 F1 → Rel H1 F1 b r G → Apart H F F1 G → K b H1) : Tg X f p Rel σ H K :=
  ⟨env, F, r, e1, ho, he, k⟩
/-- lists of operands -/
inductive OpsOk (X : Cx) (H : Hp) (F : List Addr) : List V → List RV → Prop
  | nil : OpsOk X H F [] []
  | cons {v : V} {r : RV} {vs : List V} {rs : List RV} : OpOk X H F v r → OpsOk X H F vs rs → OpsOk X H F (v :: vs) (r :: rs)
def OpsO (X : Cx) (H : Hp) (F : List Addr) (vs : List V) (rs : List RV) (G : List Addr) : Prop := G = [] ∧ OpsOk X H F vs rs
/-- values with what is their own -/
inductive RvsO (X : Cx) (H : Hp) (F : List Addr) : List V → List RV → List Addr → Prop
  | nil : RvsO X H F [] [] []
  | cons {v : V} {r : RV} {vs : List V} {rs : List RV} {G G' : List Addr} : RvO X H F v r G → RvsO X H F vs rs G' → (∀ a ∈ G, a ∉ G') → RvsO X H F (v :: vs) (r :: rs) (G ++ G')
theorem OpsOk.length {H : Hp} {F : List Addr} : ∀ {vs : List V} {rs : List RV}, OpsOk X H F vs rs → vs.length = rs.length
  | _, _, .nil => rfl
  | _, _, .cons _ t => by simp [OpsOk.length t]
def TLo (X : Cx) (C : Cfg) (es : CL) : TA := fun σ H Q => Tg X (fun env => (evL C es env).bind fun p => if brwOk p.1 (pureL es) = true then some p else none) (pureL es) (OpsO X) σ H Q
def TLr (X : Cx) (C : Cfg) (es : CL) : TA := fun σ H Q => Tg X (fun env => (evL C es env).bind fun p => if brwOk p.1 (pureL es) = true then some p else none) (pureL es) (RvsO X) σ H Q
theorem star1 {e : Expr} {es : List Expr} {env : Env} (h : notStar e = true) : starEach (e :: es) env = (false, eval e env) :: starEach es env := by
  cases e <;> first | rfl | cases h
theorem pa_cons' {e : Expr} {es : List Expr} {te : TE} {t : TA} (ha : PE X e te) (hr : PA X es t) (h : notStar e = true) : PA X (e :: es) (tCons te t) := pa_cons ha hr (star1 h)
end
end EV

set_option Elab.async false
set_option linter.all false
set_option maxRecDepth 100000
set_option maxHeartbeats 1000000
/-! EV10: the expressions' rules, by readings (own work). -/
namespace EV
open PySem PySem.Spec PyProof.Rows L2
section
variable {X : Cx} {C : Cfg} {a b c : Expr} {a' b' c' : CE} {pos : Pos}
/-! ### names and constants -/
theorem ev_var {i : Nat} {x : Str} (hN : X.N[i]? = some x) (hv : Vis X.env.scope x) (hd : (x == ("__debug__" : Str)) = false) (hcd : (x == ("__classdict__" : Str)) = false) : PE X (.Name x pos) (TEv X C (.var i)) := by
  refine (pe_var hN hv hd hcd).of fun σ H Q ⟨env, F, r, env', ho, he, q⟩ => ?_
  have he : (match env[i]? with
    | some (some (.val d)) => some (RV.val d, env)
    | some (some (.own o)) => some (.brw o, env)
    | _ => none) = some (r, env') := he
  split at he
  · rename_i d e
    cases he
    obtain ⟨x1, G, e1, s1, sub, _⟩ := ho.at e
    obtain ⟨hG, v, rfl, rl⟩ := s1
    exact ⟨v, e1, q v H F [] (Aft.refl ho) ⟨rfl, rl⟩ Apart.nil⟩
  · rename_i o e
    cases he
    obtain ⟨x1, G, e1, s1, sub, _⟩ := ho.at e
    obtain ⟨v, rfl, ow⟩ := s1
    exact ⟨v, e1, q v H F [] (Aft.refl ho) ⟨rfl, G, ow, sub⟩ Apart.nil⟩
  · cases he
/-- an own local is handed over for good -/
theorem ev_mv {i : Nat} {x : Str} (hN : X.N[i]? = some x) (hv : Vis X.env.scope x) (hd : (x == ("__debug__" : Str)) = false) (hcd : (x == ("__classdict__" : Str)) = false) : PE X (.Name x pos) (TEv X C (.mv i)) := by
  refine ⟨fun pins s σ H Q I ⟨env, F, r, env', ho, he, q⟩ => ?_⟩
  have he : (match env[i]? with
    | some (some (.val d)) => some (RV.val d, env)
    | some (some (.own o)) => some (.val (fz o), env.set i (some (.val (fz o))))
    | _ => none) = some (r, env') := he
  split at he
  · rename_i d e
    cases he
    obtain ⟨x1, G, e1, s1, sub, _⟩ := ho.at e
    obtain ⟨hG, v, rfl, rl⟩ := s1
    exact (pe_var hN hv hd hcd).run pins s σ H Q I ⟨v, e1, q v H F [] (Aft.refl ho) ⟨rfl, rl⟩ Apart.nil⟩
  · rename_i o e
    cases he
    obtain ⟨x1, G, e1, s1, sub, rp⟩ := ho.at e
    obtain ⟨v, rfl, ow⟩ := s1
    refine thn ((pe_var hN hv hd hcd).run pins s σ H (fun u H' => u = v ∧ H' = H) I ⟨v, e1, rfl, rfl⟩) fun u s1 ⟨v1, H1, I1, rv, z1, z2⟩ => ?_
    subst z1; subst z2
    obtain ⟨H2, I2, rl, bt, st, nn, fr⟩ := Ow.freeze o I1 ow
    obtain ⟨F', ok', sF⟩ := rp H2 (some v1) (some (.val (fz o))) [] st (fun x hx hn => bt x hn (ho.foot x hx).ne) ⟨rfl, v1, rfl, rl⟩ (fun x hx => by simp at hx)
    rw [set_same e1] at ok'
    refine ⟨v1, H2, I2, rv, q v1 H2 F' [] ⟨ok', fun x hx => ?_, fun x hx hn => bt x (fun z => hx (sub x z)) hn, fun x hn => ?_, st, fun z => ?_⟩ ⟨rfl, rl⟩ Apart.nil⟩
    · rcases sF x hx with z | z
      · simp at z
      · exact .inl z.1
    · by_cases z : x ∈ G
      · exact nn x z
      · rw [bt x z hn]; exact hn
    · cases z
  · cases he
theorem ev_con {k : Const} {cn : Cn} {u : Nat} (e : (match k with
      | .none => some Cn.non
      | .bool b => some (.bl b)
      | .int i => some (.int i)
      | .str x => some (.str x)
      | _ => none) = some cn) : PE X (.Constant k u pos) (TEv X C (.con cn)) := by
  have go : ∀ (v : V) (d : D) (h : PE X (.Constant k u pos) (tC v)) (_ : cn.d = d) (_ : ∀ H, Rs X H v d), PE X (.Constant k u pos) (TEv X C (.con cn)) := fun v d h e1 rl => by
    refine h.of fun σ H Q ⟨env, F, r, env', ho, he, q⟩ => ?_
    have he : some (RV.val cn.d, env) = some (r, env') := he
    cases he
    exact q v H F [] (Aft.refl ho) ⟨rfl, by rw [e1]; exact rl H⟩ Apart.nil
  cases k <;> cases e
  · exact go .non .none pe_non rfl fun H => .non
  · exact go (.bl _) (.bool _) pe_bl rfl fun H => .bl _
  · exact go (.int _) (.int _) pe_int rfl fun H => .int _
  · exact go (.str _) (.str _) pe_str rfl fun H => .str _
theorem ev_glo {x : Str} {v : V} {u : Value} {d : D} (hg : Gl X x) (hm : X.mg x = some u) (r : RelV v u) (hd : (x == ("__debug__" : Str)) = false) (hC : C.glob x = some d) (rl : ∀ H, Rs X H v d) : PE X (.Name x pos) (TEv X C (.glo x)) := by
  refine (pe_glob hg hm r hd).of fun σ H Q ⟨env, F, r, env', ho, he, q⟩ => ?_
  have he : (C.glob x).map (fun d => (RV.val d, env)) = some (r, env') := he
  rw [hC] at he
  cases he
  exact q v H F [] (Aft.refl ho) ⟨rfl, rl H⟩ Apart.nil

/-! ### two operands -/
theorem brw_and {r : RV} {p : Bool} (h : ¬ (r.isBrw && !p) = true) : r.isBrw = true → p = true := fun z => by
  cases p with
  | true => rfl
  | false => exact absurd (by rw [z]; rfl) h
/-- two operands, one after another; the first may be looked at while the second leaves the locals alone -/
theorem two {σ : L2.St} {H : Hp} {env e1 e2 : Ev} {F : List Addr} {ra rb : RV} {K : V → V → Hp → Prop} (ho : EnvOk X.prog X.w X.K H σ env F) (ea : ev C a' env = some (ra, e1)) (eb : ev C b' e1 = some (rb, e2)) (hb : ra.isBrw = true → pureE b' = true)
    (k : ∀ x y H2 F2, Aft X σ (pureE a' && pureE b') H env F H2 e2 F2 → OpOk X H2 F2 x ra → OpOk X H2 F2 y rb → K x y H2) :
    TOp X C a' σ H fun x H1 => TOp X C b' σ H1 fun y H2 => K x y H2 := by
  refine ⟨env, F, ra, e1, ho, ea, fun x H1 F1 G1 a1 o1 _ => ⟨e1, F1, rb, e2, a1.ok, eb, fun y H2 F2 G2 a2 o2 _ => ?_⟩⟩
  exact k x y H2 F2 (a1.trans a2 fun z => by rw [Bool.and_eq_true] at z; exact z) (o1.2.keep a2 hb) o2.2
theorem ev_bin {op : Operator} {bo : BOp} (e : cOp op = some bo) (ha : PE X a (TEv X C a')) (hb : PE X b (TEv X C b')) : PE X (.BinOp a op b pos) (TEv X C (.bin bo a' b')) := by
  refine (pe_op (op_bin e) ha.op hb.op).of fun σ H Q ⟨env, F, r, env', ho, he, q⟩ => ?_
  simp only [ev] at he
  split at he
  · cases he
  · rename_i ra e1 ea
    split at he
    · cases he
    · rename_i rb e2 eb
      split at he
      · cases he
      · rename_i hn
        split at he
        · rename_i x y px py
          obtain ⟨r', er, ez⟩ := Option.map_eq_some_iff.mp he
          cases ez
          refine two ho ea eb (brw_and hn) fun xv yv H2 F2 af ox oy => ⟨x, y, r, ox.px px, oy.px py, er, fun v H' n => ?_⟩
          obtain ⟨G, a2, rv, ap⟩ := nw_fin af n
          exact q v H' F2 G a2 rv ap
        · cases he
theorem ev_cmp {op : CmpOp} {co : COp} (hR : Roomy X) (e : cCmp op = some co) (hm : behindInMarks op b = false) (ha : PE X a (TEv X C a')) (hb : PE X b (TEv X C b')) : PE X (.Compare a [op] [b] pos) (TEv X C (.cmp co a' b')) ∧
    PT X (.Compare a [op] [b] pos) (Tg X (evT C (.cmp co a' b')) (pureE (.cmp co a' b')) fun _ _ k r _ => k = r) := by
  have go : ∀ {σ : L2.St} {H : Hp} {env : Ev} {F : List Addr} {r : RV} {env' : Ev} {K : V → Hp → Prop}, EnvOk X.prog X.w X.K H σ env F → ev C (.cmp co a' b') env = some (r, env') →
      (∀ k H' F', r = .val (.bool k) → Aft X σ (pureE (.cmp co a' b')) H env F H' env' F' → K (.bl k) H') → tOp (TCmp X co) (TOp X C a') (TOp X C b') σ H K := by
    intro σ H env F r env' K ho he k
    simp only [ev] at he
    split at he
    · cases he
    · rename_i ra e1 ea
      split at he
      · cases he
      · rename_i rb e2 eb
        split at he
        · cases he
        · rename_i hn
          obtain ⟨r', er, ez⟩ := Option.map_eq_some_iff.mp he
          cases ez
          exact two ho ea eb (brw_and hn) fun xv yv H2 F2 af ox oy => ⟨ra.view, rb.view, r', ox.rv, oy.rv, er, k _ H2 F2 rfl af⟩
  refine ⟨(pe_cmpR (op_cmp hR e) ha.op hb.op hm).of fun σ H Q ⟨env, F, r, env', ho, he, q⟩ => ?_, (pt_cmpR (op_cmp hR e) ha.op hb.op hm).of fun σ H Q ⟨env, F, r, env', ho, he, q⟩ => ?_⟩
  · refine go ho he fun k H' F' er af => ?_
    subst er
    exact q _ H' F' [] af ⟨rfl, .bl k⟩ Apart.nil
  · unfold evT at he
    split at he
    · cases he
    · rename_i r1 e1 he1
      obtain ⟨k, e2, e3⟩ := Option.map_eq_some_iff.mp he
      cases e3
      refine go ho he1 fun k' H' F' er af => ⟨k', rfl, ?_⟩
      subst er
      cases e2
      exact q _ H' F' [] af rfl Apart.nil
end
end EV

set_option Elab.async false
set_option linter.all false
set_option maxRecDepth 100000
set_option maxHeartbeats 1000000
/-! EV11: truth, and, or, chains, choices (own work). -/
namespace EV
open PySem PySem.Spec PyProof.Rows L2
section
variable {X : Cx} {C : Cfg} {a b c : Expr} {a' b' c' : CE} {pos : Pos}
abbrev TTe (X : Cx) (C : Cfg) (e : CE) : TT := Tg X (evT C e) (pureE e) fun _ _ k r _ => k = r
/-- an expression is what it is in the small language, as a value and as a test -/
structure Snd (X : Cx) (C : Cfg) (e : Expr) (ce : CE) : Prop where
  pe : PE X e (TEv X C ce)
  pt : PT X e (TTe X C ce)
theorem evT_some {ce : CE} {env env' : Ev} {k : Bool} (h : evT C ce env = some (k, env')) : ∃ r, ev C ce env = some (r, env') ∧ truthD r.view = some k := by
  unfold evT at h
  split at h
  · cases h
  · rename_i r e1 he
    obtain ⟨k', e2, e3⟩ := Option.map_eq_some_iff.mp h
    cases e3
    exact ⟨r, he, e2⟩
theorem evT_of {ce : CE} {env env' : Ev} {r : RV} {k : Bool} (h : ev C ce env = some (r, env')) (t : truthD r.view = some k) : evT C ce env = some (k, env') := by
  unfold evT
  rw [h]
  show (truthD r.view).map (fun b => (b, env')) = _
  rw [t]
  rfl
theorem pt_plain {e : Expr} {ce : CE} (h : PE X e (TEv X C ce)) (hp : ∀ whole, isTrue e X.env whole = (do let v ← whole; standAt e.pos; holding [v] (truthy v))) : PT X e (TTe X C ce) := by
  refine ⟨fun pins s σ H Q I ⟨env, F, k, env', ho, he, q⟩ => ?_⟩
  obtain ⟨r, e1, e2⟩ := evT_some he
  refine isTrue_plain (thn (h.op.run pins s σ H (fun v H' => ∃ F', Aft X σ (pureE ce) H env F H' env' F' ∧ OpOk X H' F' v r) I
    ⟨env, F, r, env', ho, e1, fun v H' F' G a1 o1 _ => ⟨F', a1, o1.2⟩⟩) fun u s1 ⟨v, H1, I1, rv, F', a1, o1⟩ => ?_) (hp _)
  exact tru_D I1 rv o1.rv e2 (q k H1 F' [] a1 rfl Apart.nil)
theorem snd_plain {e : Expr} {ce : CE} (h : PE X e (TEv X C ce)) (hp : ∀ whole, isTrue e X.env whole = (do let v ← whole; standAt e.pos; holding [v] (truthy v))) : Snd X C e ce := ⟨h, pt_plain h hp⟩
theorem snd_cmp {op : CmpOp} {co : COp} (hR : Roomy X) (e : cCmp op = some co) (hm : behindInMarks op b = false) (ha : PE X a (TEv X C a')) (hb : PE X b (TEv X C b')) : Snd X C (.Compare a [op] [b] pos) (.cmp co a' b') :=
  ⟨(ev_cmp hR e hm ha hb).1, (ev_cmp hR e hm ha hb).2⟩
theorem snd_neg (ha : PE X a (TEv X C a')) : Snd X C (.UnaryOp .USub a pos) (.neg a') := by
  refine snd_plain ((pe_un un_neg ha).of fun σ H Q ⟨env, F, r, env', ho, he, q⟩ => ?_) fun _ => rfl
  simp only [ev] at he
  split at he
  · rename_i i e1 ea
    cases he
    refine ⟨env, F, _, _, ho, ea, fun v H' F' G a1 o1 _ => ?_⟩
    cases o1.2
    exact ⟨i, rfl, q _ H' F' [] a1 ⟨rfl, .int _⟩ Apart.nil⟩
  · cases he
theorem snd_not (ha : Snd X C a a') : Snd X C (.UnaryOp .Not a pos) (.not a') := by
  refine ⟨⟨fun pins s σ H Q I ⟨env, F, r, env', ho, he, q⟩ => ?_⟩, (pt_not ha.pt).of fun σ H Q ⟨env, F, k, env', ho, he, q⟩ => ?_⟩
  · simp only [ev] at he
    split at he
    · cases he
    · rename_i ra e1 ea
      obtain ⟨k, e2, e3⟩ := Option.map_eq_some_iff.mp he
      cases e3
      refine UnaryOp_ (thn (ha.pe.op.run pins s σ H (fun v H' => ∃ F', Aft X σ (pureE a') H env F H' env' F' ∧ OpOk X H' F' v ra) I
        ⟨env, F, ra, env', ho, ea, fun v H' F' G a1 o1 _ => ⟨F', a1, o1.2⟩⟩) fun u s1 ⟨v, H1, I1, rv, F', a1, o1⟩ => ?_)
      refine not_of (thn (tru_D I1 rv o1.rv e2 (Q := fun c H2 => c = k ∧ H2 = H1) ⟨rfl, rfl⟩) fun c s2 ⟨H2, I2, z1, z2⟩ => ?_)
      subst z1; subst z2
      exact ⟨.bl (!c), H2, I2, rfl, q _ H2 F' [] a1 ⟨rfl, .bl _⟩ Apart.nil⟩
  · obtain ⟨r, e1, e2⟩ := evT_some he
    simp only [ev] at e1
    split at e1
    · cases e1
    · rename_i ra e3 ea
      obtain ⟨k', e4, e5⟩ := Option.map_eq_some_iff.mp e1
      cases e5
      cases e2
      refine ⟨env, F, k', env', ho, evT_of ea e4, fun b H' F' G a1 hb ap => ?_⟩
      subst hb
      exact q _ H' F' [] a1 rfl Apart.nil
theorem bEq {p q : Bool} (h : p = true → q = true) (hp : p = true) : q = true := h hp
/-- a or b, a and b: the rest b is e2 -/
theorem snd_and {rest : List Expr} {p : Pos} (ha : Snd X C a a') (hb : PE X (.BoolOp .And (b :: rest) p) (TEv X C b')) (hw : PW X (.BoolOp .And (b :: rest) p) (TTe X C b')) :
    PE X (.BoolOp .And (a :: b :: rest) p) (TEv X C (.and a' b')) ∧ PW X (.BoolOp .And (a :: b :: rest) p) (TTe X C (.and a' b')) := by
  refine ⟨⟨fun pins s σ H Q I ⟨env, F, r, env', ho, he, q⟩ => ?_⟩, ⟨fun whole pins s σ H Q I ⟨env, F, k, env', ho, he, q⟩ => ?_⟩⟩
  · simp only [ev] at he
    split at he
    · cases he
    · rename_i ra e1 ea
      have tr : ∀ k, truthD ra.view = some k → (∀ (v : V) (u : Value) (H1 : Hp) (F1 G1 : List Addr) (s1 : Shared), Inv X pins σ H1 s1 → RelV v u → Aft X σ (pureE a') H env F H1 e1 F1 → RvO X H1 F1 v ra G1 → Apart H F F1 G1 →
          (if k = true then wpAny (model X.prog X.w) X.A (eval (.BoolOp .And (b :: rest) p) X.env) (EP X pins σ Q) X.xe s1 else EP X pins σ Q u s1)) →
          wpAny (model X.prog X.w) X.A (eval (.BoolOp .And (a :: b :: rest) p) X.env) (EP X pins σ Q) X.xe s := by
        intro k hk go
        refine BoolOp_and (thn (ha.pe.run pins s σ H (fun v H' => ∃ F' G, Aft X σ (pureE a') H env F H' e1 F' ∧ RvO X H' F' v ra G ∧ Apart H F F' G) I
          ⟨env, F, ra, e1, ho, ea, fun v H' F' G x1 x2 x3 => ⟨F', G, x1, x2, x3⟩⟩) fun u s1 ⟨v, H1, I1, rv, F', G, x1, x2, x3⟩ => ?_)
        have vw : Rv X H1 v ra.view := by
          match ra, x2 with
          | .val d, x2 => exact Rl.weak d x2.2
          | .own o, x2 => exact Ow.view o x2
          | .brw o, ⟨_, B, x2, _⟩ => exact Ow.view o x2
        refine thn (tru_D I1 rv vw hk (Q := fun c H2 => c = k ∧ H2 = H1) ⟨rfl, rfl⟩) fun c s2 ⟨H2, I2, z1, z2⟩ => ?_
        subst z1; subst z2
        have g := go v u H2 F' G s2 I2 rv x1 x2 x3
        cases c <;> exact g
      split at he
      · cases he
      · rename_i ht
        refine tr true ht fun v u H1 F1 G1 s1 I1 rv x1 x2 x3 => ?_
        rw [if_pos rfl]
        exact hb.run pins s1 σ H1 Q I1 ⟨e1, F1, r, env', x1.ok, he, fun v2 H2 F2 G2 y1 y2 y3 => q v2 H2 F2 G2 (x1.trans y1 fun z => by
          have z : (pureE a' && pureE b') = true := z
          rw [Bool.and_eq_true] at z; exact z) y2 (y3.back x1)⟩
      · rename_i ht
        cases he
        refine tr false ht fun v u H1 F1 G1 s1 I1 rv x1 x2 x3 => ?_
        rw [if_neg (by decide)]
        exact ⟨v, H1, I1, rv, q v H1 F1 G1 (x1.imp fun z => by
          have z : (pureE a' && pureE b') = true := z
          rw [Bool.and_eq_true] at z; exact z.1) x2 x3⟩
  · obtain ⟨r, e0, e2⟩ := evT_some he
    simp only [ev] at e0
    split at e0
    · cases e0
    · rename_i ra e1 ea
      split at e0
      · cases e0
      · rename_i ht
        refine (pw_and ha.pt hw).run whole pins s σ H Q I ⟨env, F, true, e1, ho, evT_of ea ht, fun bb H1 F1 G1 x1 x2 x3 => ?_⟩
        subst x2
        rw [if_pos rfl]
        exact ⟨e1, F1, k, env', x1.ok, evT_of e0 e2, fun b2 H2 F2 G2 y1 y2 y3 => q b2 H2 F2 [] (x1.trans y1 fun z => by
          have z : (pureE a' && pureE b') = true := z
          rw [Bool.and_eq_true] at z; exact z) y2 Apart.nil⟩
      · rename_i ht
        cases e0
        rw [ht] at e2
        cases e2
        refine (pw_and ha.pt hw).run whole pins s σ H Q I ⟨env, F, false, env', ho, evT_of ea ht, fun bb H1 F1 G1 x1 x2 x3 => ?_⟩
        subst x2
        rw [if_neg (by decide)]
        exact q false H1 F1 [] (x1.imp fun z => by
          have z : (pureE a' && pureE b') = true := z
          rw [Bool.and_eq_true] at z; exact z.1) rfl Apart.nil
theorem snd_or {rest : List Expr} {p : Pos} (ha : Snd X C a a') (hb : PE X (.BoolOp .Or (b :: rest) p) (TEv X C b')) (hw : PW X (.BoolOp .Or (b :: rest) p) (TTe X C b')) :
    PE X (.BoolOp .Or (a :: b :: rest) p) (TEv X C (.or a' b')) ∧ PW X (.BoolOp .Or (a :: b :: rest) p) (TTe X C (.or a' b')) := by
  refine ⟨⟨fun pins s σ H Q I ⟨env, F, r, env', ho, he, q⟩ => ?_⟩, ⟨fun whole pins s σ H Q I ⟨env, F, k, env', ho, he, q⟩ => ?_⟩⟩
  · simp only [ev] at he
    split at he
    · cases he
    · rename_i ra e1 ea
      have tr : ∀ k, truthD ra.view = some k → (∀ (v : V) (u : Value) (H1 : Hp) (F1 G1 : List Addr) (s1 : Shared), Inv X pins σ H1 s1 → RelV v u → Aft X σ (pureE a') H env F H1 e1 F1 → RvO X H1 F1 v ra G1 → Apart H F F1 G1 →
          (if k = true then EP X pins σ Q u s1 else wpAny (model X.prog X.w) X.A (eval (.BoolOp .Or (b :: rest) p) X.env) (EP X pins σ Q) X.xe s1)) →
          wpAny (model X.prog X.w) X.A (eval (.BoolOp .Or (a :: b :: rest) p) X.env) (EP X pins σ Q) X.xe s := by
        intro k hk go
        refine BoolOp_or (thn (ha.pe.run pins s σ H (fun v H' => ∃ F' G, Aft X σ (pureE a') H env F H' e1 F' ∧ RvO X H' F' v ra G ∧ Apart H F F' G) I
          ⟨env, F, ra, e1, ho, ea, fun v H' F' G x1 x2 x3 => ⟨F', G, x1, x2, x3⟩⟩) fun u s1 ⟨v, H1, I1, rv, F', G, x1, x2, x3⟩ => ?_)
        have vw : Rv X H1 v ra.view := by
          match ra, x2 with
          | .val d, x2 => exact Rl.weak d x2.2
          | .own o, x2 => exact Ow.view o x2
          | .brw o, ⟨_, B, x2, _⟩ => exact Ow.view o x2
        refine thn (tru_D I1 rv vw hk (Q := fun c H2 => c = k ∧ H2 = H1) ⟨rfl, rfl⟩) fun c s2 ⟨H2, I2, z1, z2⟩ => ?_
        subst z1; subst z2
        have g := go v u H2 F' G s2 I2 rv x1 x2 x3
        cases c <;> exact g
      split at he
      · cases he
      · rename_i ht
        refine tr false ht fun v u H1 F1 G1 s1 I1 rv x1 x2 x3 => ?_
        rw [if_neg (by decide)]
        exact hb.run pins s1 σ H1 Q I1 ⟨e1, F1, r, env', x1.ok, he, fun v2 H2 F2 G2 y1 y2 y3 => q v2 H2 F2 G2 (x1.trans y1 fun z => by
          have z : (pureE a' && pureE b') = true := z
          rw [Bool.and_eq_true] at z; exact z) y2 (y3.back x1)⟩
      · rename_i ht
        cases he
        refine tr true ht fun v u H1 F1 G1 s1 I1 rv x1 x2 x3 => ?_
        rw [if_pos rfl]
        exact ⟨v, H1, I1, rv, q v H1 F1 G1 (x1.imp fun z => by
          have z : (pureE a' && pureE b') = true := z
          rw [Bool.and_eq_true] at z; exact z.1) x2 x3⟩
  · obtain ⟨r, e0, e2⟩ := evT_some he
    simp only [ev] at e0
    split at e0
    · cases e0
    · rename_i ra e1 ea
      split at e0
      · cases e0
      · rename_i ht
        refine (pw_or ha.pt hw).run whole pins s σ H Q I ⟨env, F, false, e1, ho, evT_of ea ht, fun bb H1 F1 G1 x1 x2 x3 => ?_⟩
        subst x2
        rw [if_neg (by decide)]
        exact ⟨e1, F1, k, env', x1.ok, evT_of e0 e2, fun b2 H2 F2 G2 y1 y2 y3 => q b2 H2 F2 [] (x1.trans y1 fun z => by
          have z : (pureE a' && pureE b') = true := z
          rw [Bool.and_eq_true] at z; exact z) y2 Apart.nil⟩
      · rename_i ht
        cases e0
        rw [ht] at e2
        cases e2
        refine (pw_or ha.pt hw).run whole pins s σ H Q I ⟨env, F, true, env', ho, evT_of ea ht, fun bb H1 F1 G1 x1 x2 x3 => ?_⟩
        subst x2
        rw [if_pos rfl]
        exact q true H1 F1 [] (x1.imp fun z => by
          have z : (pureE a' && pureE b') = true := z
          rw [Bool.and_eq_true] at z; exact z.1) rfl Apart.nil
theorem pure3 {p q r : Bool} (z : (p && q && r) = true) : p = true ∧ q = true ∧ r = true := by
  rw [Bool.and_eq_true, Bool.and_eq_true] at z
  exact ⟨z.1.1, z.1.2, z.2⟩
/-- a if c else b: pureE (.ite c a b) is pureE a && pureE b && pureE c -/
theorem snd_ite (hc : Snd X C c c') (ha : Snd X C a a') (hb : Snd X C b b') : Snd X C (.IfExp c a b pos) (.ite c' a' b') := by
  refine ⟨(pe_ifExp hc.pt ha.pe hb.pe).of fun σ H Q ⟨env, F, r, env', ho, he, q⟩ => ?_, ⟨fun pins s σ H Q I ⟨env, F, k, env', ho, he, q⟩ => ?_⟩⟩
  · simp only [ev] at he
    split at he
    · cases he
    · rename_i rc e1 ec
      split at he
      · cases he
      · rename_i ht
        refine ⟨env, F, true, e1, ho, evT_of ec ht, fun bb H1 F1 G1 x1 x2 x3 => ?_⟩
        subst x2
        rw [if_pos rfl]
        exact ⟨e1, F1, r, env', x1.ok, he, fun v2 H2 F2 G2 y1 y2 y3 => q v2 H2 F2 G2 (x1.trans y1 fun z => have z := pure3 z; by simp_all) y2 (y3.back x1)⟩
      · rename_i ht
        refine ⟨env, F, false, e1, ho, evT_of ec ht, fun bb H1 F1 G1 x1 x2 x3 => ?_⟩
        subst x2
        rw [if_neg (by decide)]
        exact ⟨e1, F1, r, env', x1.ok, he, fun v2 H2 F2 G2 y1 y2 y3 => q v2 H2 F2 G2 (x1.trans y1 fun z => have z := pure3 z; by simp_all) y2 (y3.back x1)⟩
  · obtain ⟨r, e0, e2⟩ := evT_some he
    simp only [ev] at e0
    split at e0
    · cases e0
    · rename_i rc e1 ec
      split at e0
      · cases e0
      · rename_i ht
        refine isTrue_IfExp (thn (hc.pt.run pins s σ H (fun bb H1 => ∃ F1, bb = true ∧ Aft X σ (pureE c') H env F H1 e1 F1) I ⟨env, F, true, e1, ho, evT_of ec ht, fun bb H1 F1 G1 x1 x2 x3 => ⟨F1, x2, x1⟩⟩) fun bb s1 ⟨H1, I1, F1, x2, x1⟩ => ?_)
        subst x2
        rw [if_pos rfl]
        exact ha.pt.run pins s1 σ H1 Q I1 ⟨e1, F1, k, env', x1.ok, evT_of e0 e2, fun b2 H2 F2 G2 y1 y2 y3 => q b2 H2 F2 [] (x1.trans y1 fun z => have z := pure3 z; by simp_all) y2 Apart.nil⟩
      · rename_i ht
        refine isTrue_IfExp (thn (hc.pt.run pins s σ H (fun bb H1 => ∃ F1, bb = false ∧ Aft X σ (pureE c') H env F H1 e1 F1) I ⟨env, F, false, e1, ho, evT_of ec ht, fun bb H1 F1 G1 x1 x2 x3 => ⟨F1, x2, x1⟩⟩) fun bb s1 ⟨H1, I1, F1, x2, x1⟩ => ?_)
        subst x2
        rw [if_neg (by decide)]
        exact hb.pt.run pins s1 σ H1 Q I1 ⟨e1, F1, k, env', x1.ok, evT_of e0 e2, fun b2 H2 F2 G2 y1 y2 y3 => q b2 H2 F2 [] (x1.trans y1 fun z => have z := pure3 z; by simp_all) y2 Apart.nil⟩
end
end EV

set_option Elab.async false
set_option linter.all false
set_option maxRecDepth 100000
set_option maxHeartbeats 1000000
/-! EV12: chains, lists of operands, displays, parts, slices (own work). -/
namespace EV
open PySem PySem.Spec PyProof.Rows L2
section
variable {X : Cx} {C : Cfg} {a b c : Expr} {a' b' c' : CE} {pos : Pos}
theorem and2 {p q : Bool} (z : (p && q) = true) : p = true ∧ q = true := by rw [Bool.and_eq_true] at z; exact z
theorem nob {r r' : RV} (h : ¬ (r.isBrw || r'.isBrw) = true) : r.isBrw = false ∧ r'.isBrw = false := by
  cases e : r.isBrw with
  | true => rw [e] at h; exact absurd rfl h
  | false => cases e' : r'.isBrw with
    | true => rw [e, e'] at h; exact absurd rfl h
    | false => exact ⟨rfl, rfl⟩
theorem chn_go (hR : Roomy X) {op op' : CmpOp} {co co' : COp} {σ : L2.St} {H : Hp} {env : Ev} {F : List Addr} {r : RV} {env' : Ev} {K : V → Hp → Prop} (ho : EnvOk X.prog X.w X.K H σ env F) (he : ev C (.chn co co' a' b' c') env = some (r, env'))
    (k : ∀ kb H' F', r = .val (.bool kb) → Aft X σ (pureE (.chn co co' a' b' c')) H env F H' env' F' → K (.bl kb) H') :
    tChain (TCmp X co) (TCmp X co') (TOp X C a') (TOp X C b') (TOp X C c') σ H K := by
  simp only [ev] at he
  split at he
  · cases he
  · rename_i ra e1 ea
    split at he
    · cases he
    · rename_i rb e2 eb
      split at he
      · cases he
      · rename_i hn
        obtain ⟨n1, n2⟩ := nob hn
        split at he
        · cases he
        · rename_i er
          cases he
          exact two ho ea eb (fun z => by rw [n1] at z; cases z) fun xv yv H2 F2 af ox oy => ⟨ra.view, rb.view, false, ox.rv, oy.rv, er, false, rfl, by
            rw [if_neg (by decide)]
            exact k false H2 F2 rfl (af.imp fun z => by have z := pure3 z; simp_all)⟩
        · rename_i er
          split at he
          · cases he
          · rename_i rc e3 ec
            obtain ⟨r', er', ez⟩ := Option.map_eq_some_iff.mp he
            cases ez
            refine two ho ea eb (fun z => by rw [n1] at z; cases z) fun xv yv H2 F2 af ox oy => ⟨ra.view, rb.view, true, ox.rv, oy.rv, er, true, rfl, ?_⟩
            rw [if_pos rfl]
            refine ⟨e2, F2, rc, _, af.ok, ec, fun z H3 F3 G3 a3 o3 _ => ?_⟩
            have oy3 := oy.keep a3 fun z => by rw [n2] at z; cases z
            exact ⟨rb.view, rc.view, r', oy3.rv, o3.2.rv, er', k r' H3 F3 rfl (af.trans a3 fun z => by have z := pure3 z; simp_all)⟩
theorem snd_chn (hR : Roomy X) {op op' : CmpOp} {co co' : COp} (e : cCmp op = some co) (e' : cCmp op' = some co') (hm : behindInMarks op' c = false) (ha : PE X a (TEv X C a')) (hb : PE X b (TEv X C b')) (hc : PE X c (TEv X C c')) :
    Snd X C (.Compare a [op, op'] [b, c] pos) (.chn co co' a' b' c') := by
  have hm' : lastMarks [op, op'] [b, c] = false := hm
  refine ⟨(pe_chain (op_cmp hR e) (op_cmp hR e') ha.op hb.op hc.op hm').of fun σ H Q ⟨env, F, r, env', ho, he, q⟩ => ?_, (pt_chain (op_cmp hR e) (op_cmp hR e') ha.op hb.op hc.op hm').of fun σ H Q ⟨env, F, k, env', ho, he, q⟩ => ?_⟩
  · refine chn_go (op := op) (op' := op') hR ho he fun kb H' F' er af => ?_
    subst er
    exact q _ H' F' [] af ⟨rfl, .bl kb⟩ Apart.nil
  · obtain ⟨r, e1, e2⟩ := evT_some he
    refine chn_go (op := op) (op' := op') hR ho e1 fun kb H' F' er af => ⟨kb, rfl, ?_⟩
    subst er
    cases e2
    exact q _ H' F' [] af rfl Apart.nil

/-! ### lists of operands -/
theorem OpsOk.keep {σ : L2.St} {p : Bool} {H1 H2 : Hp} {e1 e2 : Ev} {F1 F2 : List Addr} (a : Aft X σ p H1 e1 F1 H2 e2 F2) : ∀ {vs : List V} {rs : List RV}, OpsOk X H1 F1 vs rs → (rs.any RV.isBrw = true → p = true) → OpsOk X H2 F2 vs rs
  | _, _, .nil, _ => .nil
  | _, _, @OpsOk.cons _ _ _ v r vs rs h t, hb => .cons (h.keep a fun z => hb (by simp [z])) (OpsOk.keep a t fun z => hb (by rw [List.any_cons, z, Bool.or_true]))
theorem brwOk_cons {r : RV} {rs : List RV} {p q : Bool} (h : brwOk (r :: rs) (p && q) = true) : (r.isBrw = true → q = true) ∧ brwOk rs q = true := by
  unfold brwOk at h ⊢
  rw [List.any_cons] at h
  revert h
  generalize rs.any RV.isBrw = z
  generalize r.isBrw = y
  cases y <;> cases z <;> cases p <;> cases q <;> simp
theorem evL_cons {e : CE} {es : CL} {env env' : Ev} {rs : List RV} (h : evL C (.cons e es) env = some (rs, env')) : ∃ r e1 rs', ev C e env = some (r, e1) ∧ evL C es e1 = some (rs', env') ∧ rs = r :: rs' := by
  simp only [evL] at h
  split at h
  · cases h
  · rename_i r e1 he
    obtain ⟨p, e2, e3⟩ := Option.map_eq_some_iff.mp h
    cases e3
    exact ⟨r, e1, p.1, he, e2, rfl⟩
theorem tlo_some {es : CL} {p : Bool} {env env' : Ev} {rs : List RV} (h : ((evL C es env).bind fun q => if brwOk q.1 p = true then some q else none) = some (rs, env')) : evL C es env = some (rs, env') ∧ brwOk rs p = true := by
  obtain ⟨q, e1, e2⟩ := Option.bind_eq_some_iff.mp h
  split at e2
  · cases e2
    exact ⟨e1, by assumption⟩
  · cases e2
theorem tlo_of {es : CL} {p : Bool} {env env' : Ev} {rs : List RV} (h : evL C es env = some (rs, env')) (hb : brwOk rs p = true) : ((evL C es env).bind fun q => if brwOk q.1 p = true then some q else none) = some (rs, env') := by
  rw [h]
  show (if brwOk rs p = true then some (rs, env') else none) = _
  rw [if_pos hb]
theorem lo_nil : PA X [] (TLo X C .nil) := pa_nil.of fun σ H Q ⟨env, F, rs, env', ho, he, q⟩ => by
  obtain ⟨e1, _⟩ := tlo_some he
  have e1 : some ([], env) = some (rs, env') := e1
  cases e1
  exact q [] H F [] (Aft.refl ho) ⟨rfl, .nil⟩ Apart.nil
theorem lo_cons {es : List Expr} {es' : CL} (hs : notStar a = true) (ha : PE X a (TEv X C a')) (hr : PA X es (TLo X C es')) : PA X (a :: es) (TLo X C (.cons a' es')) := (pa_cons' ha.op hr hs).of fun σ H Q ⟨env, F, rs, env', ho, he, q⟩ => by
  obtain ⟨e0, hb⟩ := tlo_some he
  obtain ⟨r, e1, rs', ea, er, rfl⟩ := evL_cons e0
  obtain ⟨b1, b2⟩ := brwOk_cons hb
  refine ⟨env, F, r, e1, ho, ea, fun x H1 F1 G1 a1 o1 _ => ⟨e1, F1, rs', env', a1.ok, tlo_of er b2, fun xs H2 F2 G2 a2 o2 _ => ?_⟩⟩
  exact q (x :: xs) H2 F2 [] (a1.trans a2 fun z => and2 z) ⟨rfl, .cons (o1.2.keep a2 b1) o2.2⟩ Apart.nil
theorem lr_nil : PA X [] (TLr X C .nil) := pa_nil.of fun σ H Q ⟨env, F, rs, env', ho, he, q⟩ => by
  obtain ⟨e1, _⟩ := tlo_some he
  have e1 : some ([], env) = some (rs, env') := e1
  cases e1
  exact q [] H F [] (Aft.refl ho) .nil Apart.nil
theorem lr_cons {es : List Expr} {es' : CL} (hs : notStar a = true) (ha : PE X a (TEv X C a')) (hr : PA X es (TLr X C es')) : PA X (a :: es) (TLr X C (.cons a' es')) := (pa_cons' ha hr hs).of fun σ H Q ⟨env, F, rs, env', ho, he, q⟩ => by
  obtain ⟨e0, hb⟩ := tlo_some he
  obtain ⟨r, e1, rs', ea, er, rfl⟩ := evL_cons e0
  obtain ⟨b1, b2⟩ := brwOk_cons hb
  refine ⟨env, F, r, e1, ho, ea, fun x H1 F1 G1 a1 o1 p1 => ⟨e1, F1, rs', env', a1.ok, tlo_of er b2, fun xs H2 F2 G2 a2 o2 p2 => ?_⟩⟩
  obtain ⟨o1', off⟩ := o1.keep a2 p1.off b1
  refine q (x :: xs) H2 F2 (G1 ++ G2) (a1.trans a2 fun z => and2 z) (.cons o1' o2 fun y hy hz => ?_) ⟨fun y hy => ?_, fun y hy => ?_⟩
  · rcases p2.sub y hz with z | z
    · exact p1.off y hy z
    · exact (o1.foot y hy).ne z
  · rcases List.mem_append.mp hy with z | z
    · exact off y z
    · exact p2.off y z
  · rcases List.mem_append.mp hy with z | z
    · exact p1.sub y z
    · exact (p2.back a1).sub y z
/-- what is kept of every operand -/
theorem OpOk.kept {H : Hp} {F : List Addr} {v : V} {r : RV} {d : D} (h : OpOk X H F v r) (e : r.keep = some d) : Rs X H v d := by
  match r, h, e with
  | .val d', h, e => cases e; exact h
  | .own o, h, e => cases e; exact h
theorem keeps_some {r : RV} {rs : List RV} {ds : List D} (h : keeps (r :: rs) = some ds) : ∃ d ds', r.keep = some d ∧ keeps rs = some ds' ∧ ds = d :: ds' := by
  obtain ⟨d, e1, e2⟩ := Option.bind_eq_some_iff.mp (show (r.keep.bind fun d => (keeps rs).map (d :: ·)) = some ds from h)
  obtain ⟨ds', e3, e4⟩ := Option.map_eq_some_iff.mp e2
  exact ⟨d, ds', e1, e3, e4.symm⟩
theorem keeps_brw : ∀ {rs : List RV} {ds : List D}, keeps rs = some ds → rs.any RV.isBrw = false
  | [], _, _ => rfl
  | r :: rs, ds, h => by
    obtain ⟨d, ds', e1, e2, _⟩ := keeps_some h
    rw [List.any_cons, keeps_brw e2, Bool.or_false]
    cases r <;> first | rfl | cases e1
theorem keeps_ok {rs : List RV} {ds : List D} (p : Bool) (h : keeps rs = some ds) : brwOk rs p = true := by
  unfold brwOk
  rw [keeps_brw h]
  rfl
theorem OpsOk.kept {H : Hp} {F : List Addr} : ∀ {vs : List V} {rs : List RV} {ds : List D}, OpsOk X H F vs rs → keeps rs = some ds → RsA X H vs ds
  | _, _, _, .nil, e => by cases e; exact .nil
  | _, _, _, .cons h t, e => by
    obtain ⟨d, ds', e1, e2, rfl⟩ := keeps_some e
    exact .cons (h.kept e1) (OpsOk.kept t e2)
theorem evTup {es : List Expr} {es' : CL} {x1 : Nat} (h : PA X es (TLo X C es')) : PE X (.Tuple es x1 pos) (TEv X C (.tup es')) := (peTup h).of fun σ H Q ⟨env, F, r, env', ho, he, q⟩ => by
  simp only [ev] at he
  split at he
  · cases he
  · rename_i rs e1 el
    obtain ⟨ds, e2, e3⟩ := Option.bind_eq_some_iff.mp he
    split at e3
    · rename_i hz
      cases e3
      refine ⟨env, F, rs, env', ho, tlo_of el (keeps_ok _ e2), fun vs H1 F1 G1 a1 o1 _ => ?_⟩
      have rl := o1.2.kept e2
      refine ⟨by rw [rl.length]; exact hz, fun p ob hp hd => ?_⟩
      obtain ⟨G, a2, rv, ap⟩ := nw_fin a1 (nw_tup hp hd rl)
      exact q _ _ F1 G a2 rv ap
    · cases e3
theorem evLst {es : List Expr} {es' : CL} (h : PA X es (TLo X C es')) : PE X (.List es pos) (TEv X C (.lst es')) := (pe_lst h).of fun σ H Q ⟨env, F, r, env', ho, he, q⟩ => by
  simp only [ev] at he
  split at he
  · cases he
  · rename_i rs e1 el
    obtain ⟨ds, e2, e3⟩ := Option.bind_eq_some_iff.mp he
    split at e3
    · rename_i hz
      cases e3
      refine ⟨env, F, rs, env', ho, tlo_of el (keeps_ok _ e2), fun vs H1 F1 G1 a1 o1 _ => ?_⟩
      have rl := o1.2.kept e2
      refine ⟨by rw [rl.length]; exact hz, fun p hp => ?_⟩
      obtain ⟨G, a2, rv, ap⟩ := nw_fin a1 (nw_list hp rl)
      exact q _ _ F1 G a2 rv ap
    · cases e3
/-! ### parts, slices -/
theorem PtOk.rvo {H : Hp} {F : List Addr} {v : V} {r : RV} (h : PtOk X H F v r) : RvO X H F v r [] := by
  match r, h with
  | .val d, h => exact ⟨rfl, h⟩
  | .brw o, h => exact ⟨rfl, h⟩
theorem evIdx (hs : PlainIx b) (ha : PE X a (TEv X C a')) (hb : PE X b (TEv X C b')) : PE X (.Subscript a b pos) (TEv X C (.idx a' b')) := (pe_ix ix_D ha.op hb.op hs).of fun σ H Q ⟨env, F, r, env', ho, he, q⟩ => by
  simp only [ev] at he
  split at he
  · cases he
  · rename_i ra e1 ea
    split at he
    · cases he
    · rename_i rk e2 ek
      split at he
      · cases he
      · rename_i hn
        split at he
        · rename_i d
          obtain ⟨r', er, ez⟩ := Option.map_eq_some_iff.mp he
          cases ez
          exact two ho ea ek (brw_and hn) fun xv yv H2 F2 af ox oy => ⟨F2, ra, d, r, ox, oy, er, fun v pt => q v H2 F2 [] af pt.rvo Apart.nil⟩
        · cases he
def TOo (X : Cx) (C : Cfg) (o : CO) : L2.St → Hp → (Option Int → Hp → Prop) → Prop := Tg X (evO C o) (pureO o) fun _ _ k r _ => k = r
theorem po_non : PO X none (TOo X C .non) := ⟨fun pins s σ H Q I ⟨env, F, r, env', ho, he, q⟩ => by
  have he : some (none, env) = some (r, env') := he
  cases he
  exact po_none.run pins s σ H Q I (q none H F [] (Aft.refl ho) rfl Apart.nil)⟩
theorem po_som (ha : PE X a (TEv X C a')) : PO X (some a) (TOo X C (.som a')) := ⟨fun pins s σ H Q I ⟨env, F, r, env', ho, he, q⟩ => by
  have he : (match ev C a' env with
    | some (.val (.int i), e1) => some (some i, e1)
    | _ => none) = some (r, env') := he
  split at he
  · rename_i i e1 ea
    cases he
    refine (po_some ha).run pins s σ H Q I ⟨env, F, _, _, ho, ea, fun v H' F' G a1 o1 _ => ?_⟩
    cases o1.2
    exact ⟨i, rfl, q _ H' F' [] a1 rfl Apart.nil⟩
  · cases he⟩
theorem evSlc {lo hi : Option Expr} {lo' hi' : CO} {p2 : Pos} (ha : PE X a (TEv X C a')) (hl : PO X lo (TOo X C lo')) (hh : PO X hi (TOo X C hi')) : PE X (.Subscript a (.Slice lo hi none p2) pos) (TEv X C (.slc a' lo' hi')) :=
    (pe_slice sl_D ha.op hl hh).of fun σ H Q ⟨env, F, r, env', ho, he, q⟩ => by
  simp only [ev] at he
  split at he
  · cases he
  · rename_i ra e1 ea
    split at he
    · cases he
    · rename_i l e2 el
      split at he
      · cases he
      · rename_i hv e3 eh
        split at he
        · cases he
        · rename_i hn
          obtain ⟨r', er, ez⟩ := Option.map_eq_some_iff.mp he
          cases ez
          obtain ⟨d, ed, er⟩ := Option.bind_eq_some_iff.mp er
          have hb : ra.isBrw = true → pureO lo' = true ∧ pureO hi' = true := fun z => and2 (brw_and hn z)
          refine ⟨env, F, ra, e1, ho, ea, fun x H1 F1 G1 a1 o1 _ => ⟨e1, F1, l, e2, a1.ok, el, fun li H2 F2 G2 a2 o2 _ => ?_⟩⟩
          subst o2
          refine ⟨e2, F2, hv, _, a2.ok, eh, fun hi2 H3 F3 G3 a3 o3 _ => ?_⟩
          subst o3
          have ox := (o1.2.keep a2 fun z => (hb z).1).keep a3 fun z => (hb z).2
          refine ⟨d, r, ox.px ed, er, fun v H' n => ?_⟩
          obtain ⟨G, a4, rv, ap⟩ := nw_fin ((a1.trans a2 (r := pureE a' && pureO lo') fun z => and2 z).trans a3 (r := pureE a' && pureO lo' && pureO hi') fun z => and2 z) n
          exact q v H' F3 G a4 rv ap
end
end EV

set_option Elab.async false
set_option linter.all false
set_option maxRecDepth 100000
set_option maxHeartbeats 1000000
/-! EV13: the built-ins by their values (own work, over the hand layer's rules). -/
namespace EV
open PySem PySem.Spec PyProof.Rows L2
section
variable {X : Cx} {C : Cfg}
/-- arguments: looked at, or with parts that stay -/
inductive ArgsD (X : Cx) (H : Hp) (whole : Bool) : List V → List D → Prop
  | nil : ArgsD X H whole [] []
  | cons {v : V} {d : D} {vs : List V} {ds : List D} : Rv X H v d → (whole = true → Px X H v d) → ArgsD X H whole vs ds → ArgsD X H whole (v :: vs) (d :: ds)
theorem OpsOk.views {H : Hp} {F : List Addr} : ∀ {vs : List V} {rs : List RV}, OpsOk X H F vs rs → ArgsD X H false vs (rs.map RV.view)
  | _, _, .nil => .nil
  | _, _, .cons h t => .cons h.rv (fun z => nomatch z) (OpsOk.views t)
theorem OpsOk.parts {H : Hp} {F : List Addr} : ∀ {vs : List V} {rs : List RV} {ds : List D}, OpsOk X H F vs rs → partsL rs = some ds → ArgsD X H true vs ds
  | _, _, _, .nil, e => by cases e; exact .nil
  | _, _, _, @OpsOk.cons _ _ _ v r vs rs h t, e => by
    obtain ⟨d, e1, e2⟩ := Option.bind_eq_some_iff.mp (show (r.parts.bind fun d => (partsL rs).map (d :: ·)) = some _ from e)
    obtain ⟨ds', e3, e4⟩ := Option.map_eq_some_iff.mp e2
    subst e4
    have px := h.px e1
    exact .cons px.rv (fun _ => px) (OpsOk.parts t e3)
def TBlt (X : Cx) (b : Blt) : List V → Hp → VK → Prop := fun xs H Q => ∃ ds r, ArgsD X H b.hands xs ds ∧ bltR b ds = some r ∧ ∀ v H', Nw X H H' v r → Q v H'
def bltV : Blt → Value
  | .len => .builtin "len"
  | .int => .type "int"
  | .tuple => .type "tuple"
  | .list => .type "list"
  | .max => .builtin "max"
  | .min => .builtin "min"
  | .abs => .builtin "abs"
  | .sum => .builtin "sum"
  | .any => .builtin "any"
  | .all => .builtin "all"
  | .repr => .builtin "repr"
  | .bool => .type "bool"
  | _ => .none
theorem args1 {H : Hp} {w : Bool} {xs : List V} {d : D} (h : ArgsD X H w xs [d]) : ∃ v, xs = [v] ∧ Rv X H v d ∧ (w = true → Px X H v d) := by
  cases h with
  | cons h1 h2 h3 => cases h3; exact ⟨_, rfl, h1, h2⟩
theorem args2 {H : Hp} {w : Bool} {xs : List V} {d d' : D} (h : ArgsD X H w xs [d, d']) : ∃ v v', xs = [v, v'] ∧ Rv X H v d ∧ Rv X H v' d' := by
  cases h with
  | cons h1 h2 h3 =>
    obtain ⟨v', rfl, h4, _⟩ := args1 h3
    exact ⟨_, v', rfl, h1, h4⟩
theorem rv_bool {H : Hp} {v : V} {b : Bool} (h : Rv X H v (.bool b)) : v = .bl b := by cases h; rfl
theorem isInts_rv {H : Hp} : ∀ {ds : List D} {vs : List V} {l : List Int}, RvA X H vs ds → isInts ds = some l → vs = l.map V.int
  | [], _, l, h, e => by cases h; cases e; rfl
  | d :: ds, _, l, h, e => by
    cases h with
    | cons h1 h2 =>
      match d, e with
      | .int i, e =>
        obtain ⟨l', e1, rfl⟩ := Option.map_eq_some_iff.mp (show (isInts ds).map (i :: ·) = some l from e)
        rw [rv_int h1, isInts_rv h2 e1]
        rfl
theorem isBls_rv {H : Hp} : ∀ {ds : List D} {vs : List V} {l : List Bool}, RvA X H vs ds → isBls ds = some l → vs = l.map V.bl
  | [], _, l, h, e => by cases h; cases e; rfl
  | d :: ds, _, l, h, e => by
    cases h with
    | cons h1 h2 =>
      match d, e with
      | .bool i, e =>
        obtain ⟨l', e1, rfl⟩ := Option.map_eq_some_iff.mp (show (isBls ds).map (i :: ·) = some l from e)
        rw [rv_bool h1, isBls_rv h2 e1]
        rfl
theorem rv_list {H : Hp} {v : V} {ds : List D} (h : Rv X H v (.list ds)) : ∃ a vs, v = .ref a ∧ LR false X.K H a vs ∧ RvA X H vs ds := by
  cases h with
  | lst h1 h2 => exact ⟨_, _, rfl, h1, h2⟩
theorem rv_tup {H : Hp} {v : V} {ds : List D} (h : Rv X H v (.tuple ds)) : ∃ a vs, v = .ref a ∧ TR X.K H a vs ∧ RvA X H vs ds := by
  cases h with
  | tup h1 h2 => exact ⟨_, _, rfl, h1, h2⟩
theorem fold_le {f : Int → Int → Int} {P : Int → Int → Prop} (hP : ∀ a b, P a (f a b) ∧ P b (f a b) ∧ (f a b = a ∨ f a b = b)) (tr : ∀ a b c, P a b → P b c → P a c) (rf : ∀ a, P a a) : ∀ (l : List Int) (i : Int), (∀ a, a ∈ i :: l → P a (l.foldl f i)) ∧ l.foldl f i ∈ i :: l
  | [], i => ⟨fun a h => by simp at h; subst h; exact rf a, by simp⟩
  | b :: l, i => by
    obtain ⟨h1, h2⟩ := fold_le hP tr rf l (f i b)
    obtain ⟨p1, p2, p3⟩ := hP i b
    refine ⟨fun a ha => ?_, ?_⟩
    · have hb := h1 (f i b) List.mem_cons_self
      rcases List.mem_cons.mp ha with rfl | ha
      · exact tr _ _ _ p1 hb
      · rcases List.mem_cons.mp ha with rfl | ha
        · exact tr _ _ _ p2 hb
        · exact h1 a (List.mem_cons_of_mem _ ha)
    · rcases List.mem_cons.mp h2 with e | e
      · rw [List.foldl_cons, e]
        rcases p3 with q | q <;> rw [q] <;> simp
      · exact List.mem_cons_of_mem _ (List.mem_cons_of_mem _ e)
theorem maxI_is {i : Int} {l : List Int} {m : Int} (h1 : m ∈ i :: l) (h2 : ∀ y, y ∈ i :: l → y ≤ m) : m = maxI i l := by
  obtain ⟨p, q⟩ := fold_le (f := fun a b => if b > a then b else a) (P := fun a b => a ≤ b) (fun a b => by split <;> omega) (fun a b c => Int.le_trans) (fun a => Int.le_refl a) l i
  exact Int.le_antisymm (p m h1) (h2 _ q)
theorem minI_is {i : Int} {l : List Int} {m : Int} (h1 : m ∈ i :: l) (h2 : ∀ y, y ∈ i :: l → m ≤ y) : m = minI i l := by
  obtain ⟨p, q⟩ := fold_le (f := fun a b => if b < a then b else a) (P := fun a b => b ≤ a) (fun a b => by split <;> omega) (fun a b c h h' => Int.le_trans h' h) (fun a => Int.le_refl a) l i
  exact Int.le_antisymm (h2 _ q) (p m h1)
theorem guard_some {α : Type} {c : Bool} {x y : α} (h : (if c = true then some x else none) = some y) : c = true ∧ x = y := by
  split at h
  · exact ⟨by assumption, Option.some.inj h⟩
  · cases h
theorem repr_D (hR : Roomy X) : CallR X (.builtin "repr") (fun xs H Q => ∃ v d, xs = [v] ∧ Rv X H v d ∧ d.showable = true ∧ d.hasDict = false ∧ d.depth < 64 ∧ d.shown.length ≤ sizeLine ∧ Q (.str d.shown) H) := by
  intro pins s σ H xs us Q I r h
  obtain ⟨v, d, rfl, rv, h1, h2, h3, h4, q⟩ := h
  obtain ⟨u, rfl, ru⟩ := vals1 r
  obtain ⟨hU, hh, hg⟩ := hR
  cases rv with
  | non => cases ru; exact PySem.P.repr_of_none ⟨.str _, H, I.tok _, ⟨_, rfl⟩, q⟩
  | bl b => cases ru; exact PySem.P.repr_of_bool ⟨.str _, H, I.tok _, ⟨_, rfl⟩, q⟩
  | int i =>
    obtain ⟨t, rfl⟩ := ru
    exact PySem.P.repr_of_int (of_decide_eq_true h1) ⟨.str _, H, I.tok _, ⟨_, rfl⟩, q⟩
  | str x =>
    obtain ⟨t, rfl⟩ := ru
    exact PySem.P.repr_of_str ⟨.str _, H, I.tok _, ⟨_, rfl⟩, q⟩ h4
  | lst a b =>
    obtain ⟨as, rd⟩ := (Rl.lst a b : Rv X H _ _).reads I ru h2
    cases ru
    exact PySem.repr_of_reads' rd h1 (fun z => by rw [h2] at z; cases z) hg (by omega) (fun _ _ e => e) (fun h' u tk hk => ⟨.str _, H, I.kept hk, ⟨_, rfl⟩, q⟩) h4
  | tup a b =>
    obtain ⟨as, rd⟩ := (Rl.tup a b : Rv X H _ _).reads I ru h2
    cases ru
    exact PySem.repr_of_reads' rd h1 (fun z => by rw [h2] at z; cases z) hg (by omega) (fun _ _ e => e) (fun h' u tk hk => ⟨.str _, H, I.kept hk, ⟨_, rfl⟩, q⟩) h4
  | dct a b => simp [PyData.hasDict] at h2
theorem rlk_length {P : Program} {w : World} {K : Frg} {H : Hp} {st : Bool} : ∀ {kvs : List (Key × V)} {kds : List (D × D)}, RlK st P w K H kvs kds → kvs.length = kds.length
  | _, _, .nil => rfl
  | _, _, .cons _ t => by simp [rlk_length t]
theorem len_D : CallR X (.builtin "len") (fun xs H Q => ∃ v d n, xs = [v] ∧ Rv X H v d ∧ lenD d = some n ∧ Q (.int n) H) := by
  intro pins s σ H xs us Q I r h
  obtain ⟨v, d, n, rfl, rv, e, q⟩ := h
  cases rv with
  | non => cases e
  | bl b => cases e
  | int i => cases e
  | str x =>
    have e : (if x.length ≤ sizeLine then some (x.length : Int) else none) = some n := e
    split at e
    · cases e
      exact call_len_str pins s σ H _ us Q I r ⟨x, rfl, by assumption, q⟩
    · cases e
  | @lst a vs ds h1 h2 =>
    cases e
    rw [← h2.length] at q
    exact call_len_seq pins s σ H _ us Q I r ⟨a, vs, rfl, .inl h1.sq, q⟩
  | @tup a vs ds h1 h2 =>
    cases e
    rw [← h2.length] at q
    exact call_len_seq pins s σ H _ us Q I r ⟨a, vs, rfl, .inr h1.sq, q⟩
  | @dct a kvs kds h1 h2 =>
    have e : (if isDct kds then some (kds.length : Int) else none) = some n := e
    split at e
    · cases e
      obtain ⟨hz, hd, vs, rel, dd⟩ := dict_at I h1
      obtain ⟨u, rfl, ru⟩ := vals1 r
      cases ru
      rw [← rlk_length h2] at q
      have hn := line63
      refine PySem.call_len_dict hd dd (by rw [← rel.length]; omega) ?_
      exact ⟨.int kvs.length, H, I.tok _, ⟨_, by rw [rel.length]⟩, q⟩
    · cases e
theorem cr_blt (hR : Roomy X) (hc : X.calm = true) : ∀ b : Blt, CallR X (bltV b) (TBlt X b) := by
  intro b pins s σ H xs us Q I r ⟨ds, r', ha, e, q⟩
  match b, ds, ha, e with
  | .len, [d], ha, e =>
    obtain ⟨v, rfl, rv, _⟩ := args1 ha
    obtain ⟨n, e1, rfl⟩ := Option.map_eq_some_iff.mp (show (lenD d).map (fun n => RV.val (.int n)) = some r' from e)
    exact len_D pins s σ H _ us Q I r ⟨v, d, n, rfl, rv, e1, q _ H (nw_same (.int n))⟩
  | .int, [.int i], ha, e =>
    obtain ⟨v, rfl, rv, _⟩ := args1 ha
    cases e
    exact call_int1 pins s σ H _ us Q I r (.inl ⟨i, by rw [rv_int rv], q _ H (nw_same (.int i))⟩)
  | .int, [.bool k], ha, e =>
    obtain ⟨v, rfl, rv, _⟩ := args1 ha
    cases e
    exact call_int1 pins s σ H _ us Q I r (.inr ⟨k, by rw [rv_bool rv], q _ H (nw_same (.int _))⟩)
  | .bool, [.bool k], ha, e =>
    obtain ⟨v, rfl, rv, _⟩ := args1 ha
    cases e
    exact call_bool1 pins s σ H _ us Q I r (.inr ⟨k, by rw [rv_bool rv], q _ H (nw_same (.bl _))⟩)
  | .bool, [.int i], ha, e =>
    obtain ⟨v, rfl, rv, _⟩ := args1 ha
    cases e
    exact call_bool1 pins s σ H _ us Q I r (.inl ⟨i, by rw [rv_int rv], q _ H (nw_same (.bl _))⟩)
  | .abs, [.int i], ha, e =>
    obtain ⟨v, rfl, rv, _⟩ := args1 ha
    cases e
    exact call_abs pins s σ H _ us Q I r ⟨i, by rw [rv_int rv], q _ H (nw_same (.int _))⟩
  | .max, [.int i, .int j], ha, e =>
    obtain ⟨v, v', rfl, rv, rv'⟩ := args2 ha
    cases e
    exact call_max2 hc pins s σ H _ us Q I r ⟨i, j, by rw [rv_int rv, rv_int rv'], q _ H (nw_same (.int _))⟩
  | .min, [.int i, .int j], ha, e =>
    obtain ⟨v, v', rfl, rv, rv'⟩ := args2 ha
    cases e
    exact call_min2 hc pins s σ H _ us Q I r ⟨i, j, by rw [rv_int rv, rv_int rv'], q _ H (nw_same (.int _))⟩
  | .max, [.list ds], ha, e =>
    obtain ⟨v, rfl, rv, _⟩ := args1 ha
    obtain ⟨a, vs, rfl, h1, h2⟩ := rv_list rv
    have e : (match isInts ds with
      | some (i :: l) => some (RV.val (.int (maxI i l)))
      | _ => none) = some r' := e
    split at e
    · rename_i i l ei
      cases e
      obtain rfl := isInts_rv h2 ei
      exact cr_max hc pins s σ H _ us Q I r ⟨a, i :: l, rfl, h1.sq, by simp, fun m m1 m2 => by rw [maxI_is m1 m2]; exact q _ H (nw_same (.int _))⟩
    · cases e
  | .min, [.list ds], ha, e =>
    obtain ⟨v, rfl, rv, _⟩ := args1 ha
    obtain ⟨a, vs, rfl, h1, h2⟩ := rv_list rv
    have e : (match isInts ds with
      | some (i :: l) => some (RV.val (.int (minI i l)))
      | _ => none) = some r' := e
    split at e
    · rename_i i l ei
      cases e
      obtain rfl := isInts_rv h2 ei
      exact cr_min hc pins s σ H _ us Q I r ⟨a, i :: l, rfl, h1.sq, by simp, fun m m1 m2 => by rw [minI_is m1 m2]; exact q _ H (nw_same (.int _))⟩
    · cases e
  | .sum, [.list ds], ha, e =>
    obtain ⟨v, rfl, rv, _⟩ := args1 ha
    obtain ⟨a, vs, rfl, h1, h2⟩ := rv_list rv
    obtain ⟨l, ei, rfl⟩ := Option.map_eq_some_iff.mp (show (isInts ds).map (fun l => RV.val (.int l.sum)) = some r' from e)
    obtain rfl := isInts_rv h2 ei
    exact cr_sum hc pins s σ H _ us Q I r ⟨a, l, rfl, h1.sq, q _ H (nw_same (.int _))⟩
  | .any, [.list ds], ha, e =>
    obtain ⟨v, rfl, rv, _⟩ := args1 ha
    obtain ⟨a, vs, rfl, h1, h2⟩ := rv_list rv
    obtain ⟨l, ei, rfl⟩ := Option.map_eq_some_iff.mp (show (isBls ds).map (fun l => RV.val (.bool (l.any id))) = some r' from e)
    obtain rfl := isBls_rv h2 ei
    exact cr_any hc pins s σ H _ us Q I r ⟨a, l, rfl, h1.sq, q _ H (nw_same (.bl _))⟩
  | .all, [.list ds], ha, e =>
    obtain ⟨v, rfl, rv, _⟩ := args1 ha
    obtain ⟨a, vs, rfl, h1, h2⟩ := rv_list rv
    obtain ⟨l, ei, rfl⟩ := Option.map_eq_some_iff.mp (show (isBls ds).map (fun l => RV.val (.bool (l.all id))) = some r' from e)
    obtain rfl := isBls_rv h2 ei
    exact cr_all hc pins s σ H _ us Q I r ⟨a, l, rfl, h1.sq, q _ H (nw_same (.bl _))⟩
  | .tuple, [.list ds], ha, e =>
    obtain ⟨v, rfl, _, px⟩ := args1 ha
    obtain ⟨a, vs, rfl, h1, h2⟩ := px rfl
    cases e
    exact crTuple pins s σ H _ us Q I r ⟨a, vs, rfl, .inl ⟨h1.sq, new_tup h2 q⟩⟩
  | .tuple, [.tuple ds], ha, e =>
    obtain ⟨v, rfl, _, px⟩ := args1 ha
    have px : Rs X H v (.tuple ds) := px rfl
    cases e
    cases px with
    | @tup a vs _ h1 h2 => exact crTuple pins s σ H _ us Q I r ⟨a, vs, rfl, .inr ⟨h1.sq, q _ _ (nw_same (.tup h1 h2))⟩⟩
  | .list, [.list ds], ha, e =>
    obtain ⟨v, rfl, _, px⟩ := args1 ha
    obtain ⟨a, vs, rfl, h1, h2⟩ := px rfl
    cases e
    exact call_list_of pins s σ H _ us Q I r ⟨a, vs, rfl, .inl h1.sq, fun p hp => q _ _ (nw_list hp h2)⟩
  | .list, [.tuple ds], ha, e =>
    obtain ⟨v, rfl, _, px⟩ := args1 ha
    have px : Rs X H v (.tuple ds) := px rfl
    cases e
    cases px with
    | @tup a vs _ h1 h2 => exact call_list_of pins s σ H _ us Q I r ⟨a, vs, rfl, .inr h1.sq, fun p hp => q _ _ (nw_list hp h2)⟩
  | .repr, [d], ha, e =>
    obtain ⟨v, rfl, rv, _⟩ := args1 ha
    obtain ⟨hg, rfl⟩ := guard_some e
    rw [Bool.and_eq_true, Bool.and_eq_true, Bool.and_eq_true, decide_eq_true_eq, decide_eq_true_eq] at hg
    obtain ⟨⟨⟨h1, h2⟩, h3⟩, h4⟩ := hg
    exact repr_D hR pins s σ H _ us Q I r ⟨v, d, rfl, rv, h1, by simpa using h2, h3, h4, q _ H (nw_same (.str _))⟩
end
end EV

set_option Elab.async false
set_option linter.all false
set_option maxRecDepth 100000
set_option maxHeartbeats 1000000
/-! EV14: calls of built-ins and of methods (own work, over the hand layer's rules). -/
namespace EV
open PySem PySem.Spec PyProof.Rows L2
section
variable {X : Cx} {C : Cfg} {pos : Pos}
theorem allStar : ∀ {es : List Expr} {env : Env}, es.all notStar = true → (starEach es env).any (·.1) = false ∧ (starEach es env).all (fun x => !x.1) = true
  | [], _, _ => ⟨rfl, rfl⟩
  | e :: es, env, h => by
    rw [List.all_cons, Bool.and_eq_true] at h
    rw [star1 h.1, List.any_cons, List.all_cons]
    have ih := allStar (env := env) h.2
    rw [ih.1, ih.2]
    exact ⟨rfl, rfl⟩
theorem back_any {l : List (Bool × Sem Value)} : (backTo pos l).any (·.1) = l.any (·.1) := by
  unfold backTo
  rw [List.any_map]
  rfl
theorem back_all {l : List (Bool × Sem Value)} : (backTo pos l).all (fun x => !x.1) = l.all (fun x => !x.1) := by
  unfold backTo
  rw [List.all_map]
  rfl
theorem blt_tab {f : Str} {b : Blt} (hb : cBlt f = some b) : bootBuiltins f = some (bltV b) ∧ f ≠ "__name__" ∧ (f == ("__debug__" : Str)) = false ∧ ((∃ id, bltV b = .builtin id) ∨ ∃ T, bltV b = .type T) := by
  unfold cBlt at hb
  split at hb
  · rename_i h; cases hb; subst h; exact ⟨boot_len, by decide, by decide, .inl ⟨_, rfl⟩⟩
  split at hb
  · rename_i h; cases hb; subst h; exact ⟨boot_int, by decide, by decide, .inr ⟨_, rfl⟩⟩
  split at hb
  · rename_i h; cases hb; subst h; exact ⟨boot_tuple, by decide, by decide, .inr ⟨_, rfl⟩⟩
  split at hb
  · rename_i h; cases hb; subst h; exact ⟨boot_list, by decide, by decide, .inr ⟨_, rfl⟩⟩
  split at hb
  · rename_i h; cases hb; subst h; exact ⟨boot_max, by decide, by decide, .inl ⟨_, rfl⟩⟩
  split at hb
  · rename_i h; cases hb; subst h; exact ⟨boot_min, by decide, by decide, .inl ⟨_, rfl⟩⟩
  split at hb
  · rename_i h; cases hb; subst h; exact ⟨boot_abs, by decide, by decide, .inl ⟨_, rfl⟩⟩
  split at hb
  · rename_i h; cases hb; subst h; exact ⟨boot_sum, by decide, by decide, .inl ⟨_, rfl⟩⟩
  split at hb
  · rename_i h; cases hb; subst h; exact ⟨boot_any, by decide, by decide, .inl ⟨_, rfl⟩⟩
  split at hb
  · rename_i h; cases hb; subst h; exact ⟨boot_all, by decide, by decide, .inl ⟨_, rfl⟩⟩
  split at hb
  · rename_i h; cases hb; subst h; exact ⟨boot_repr, by decide, by decide, .inl ⟨_, rfl⟩⟩
  split at hb
  · rename_i h; cases hb; subst h; exact ⟨boot_bool, by decide, by decide, .inr ⟨_, rfl⟩⟩
  · cases hb
theorem brw_pure {rs : List RV} {p : Bool} (h : ¬ (rs.any RV.isBrw && !p) = true) : brwOk rs p = true := by
  unfold brwOk
  revert h
  generalize rs.any RV.isBrw = z
  cases z <;> cases p <;> simp
/-- a built-in is called by its name -/
theorem peBlt {f : Str} {p : Pos} {b : Blt} {a : Expr} {args : List Expr} {es : CL} (hR : Roomy X) (hc : X.calm = true) (hg : Gl X f) (hm : X.mg f = none) (hb : cBlt f = some b) (hs : (a :: args).all notStar = true)
    (ha : PA X (a :: args) (TLo X C es)) : PE X (.Call (.Name f p) (a :: args) [] pos) (TEv X C (.blt b es)) := by
  obtain ⟨hv, hn, hd, hk⟩ := blt_tab hb
  rw [List.all_cons, Bool.and_eq_true] at hs
  have hcr := cr_blt hR hc b
  have pl : (backTo pos (starEach args X.env)).any (·.1) = false := by rw [back_any]; exact (allStar hs.2).1
  have call : PE X (.Call (.Name f p) (a :: args) [] pos) (tCB (TBlt X b) (TLo X C es)) := by
    rcases hk with ⟨id, e⟩ | ⟨T, e⟩
    · rw [e] at hv hcr
      exact pe_callB hcr hg hm hv ha hn hd (star1 hs.1) pl
    · rw [e] at hv hcr
      exact pe_callTy hcr hg hm hv ha hn hd (star1 hs.1) pl
  refine call.of fun σ H Q ⟨env, F, r, env', ho, he, q⟩ => ?_
  simp only [ev] at he
  split at he
  · cases he
  · rename_i rs e1 el
    split at he
    · cases he
    · rename_i hnb
      obtain ⟨ds, ed, er⟩ := Option.bind_eq_some_iff.mp he
      obtain ⟨r', er', ez⟩ := Option.map_eq_some_iff.mp er
      cases ez
      refine ⟨env, F, rs, _, ho, tlo_of el (brw_pure hnb), fun vs H1 F1 G1 a1 o1 _ => ⟨ds, r, ?_, er', fun v H' n => ?_⟩⟩
      · cases hh : b.hands with
        | true => rw [hh] at ed; exact o1.2.parts ed
        | false =>
          rw [hh] at ed
          cases ed
          exact o1.2.views
      · obtain ⟨G, a2, rv, ap⟩ := nw_fin a1 n
        exact q v H' F1 G a2 rv ap
/-! ### list(range(..)), tuple(range(..)) -/
theorem RvA.ints {H : Hp} : ∀ (a b : Int), RsA X H (rgV a b) (rngL a b) := fun a b => by
  unfold rgV rngL
  have go : ∀ l : List Nat, RsA X H (l.map fun i => V.int (a + (i : Nat))) (l.map fun i => PyData.int (a + (i : Nat))) := fun l => by
    induction l with
    | nil => exact .nil
    | cons i l ih => exact .cons (.int _) ih
  exact go _
theorem rng_some {ds : List D} {xs : List D} (h : iterB .range ds = some xs) : (∃ n, ds = [.int n] ∧ rngOk 0 n = true ∧ xs = rngL 0 n) ∨ ∃ a n, ds = [.int a, .int n] ∧ rngOk a n = true ∧ xs = rngL a n := by
  unfold iterB at h
  split at h
  · obtain ⟨h1, h2⟩ := guard_some h; exact .inl ⟨_, rfl, h1, h2.symm⟩
  · obtain ⟨h1, h2⟩ := guard_some h; exact .inr ⟨_, _, rfl, h1, h2.symm⟩
  · rename_i h3; cases h3
  · rename_i h3; cases h3
  · rename_i h3; cases h3
  · rename_i h3; cases h3
  · cases h
theorem rngOk_of {a b : Int} (h : rngOk a b = true) : RgOk a b := by
  unfold rngOk at h
  unfold RgOk
  exact of_decide_eq_true h
/-- a range made of operands -/
theorem prg {p : Pos} {a : Expr} {args : List Expr} {es : CL} {xs : List D} {rs : List RV} {ds : List D} (hg : Gl X "range") (hm : X.mg "range" = none) (hs : (a :: args).all notStar = true)
    (ha : PA X (a :: args) (TLo X C es)) (hl : (a :: args).length = 1 ∨ (a :: args).length = 2) :
    PRg X (.Call (.Name "range" p) (a :: args) [] pos) (fun σ H Q => TLo X C es σ H fun vs H1 => (∃ n, vs = [.int n] ∧ Q 0 n H1) ∨ ∃ i n, vs = [.int i, .int n] ∧ Q i n H1) := by
  intro pins s σ H Q I h
  rw [List.all_cons, Bool.and_eq_true] at hs
  have pl : (backTo pos (starEach args X.env)).any (·.1) = false := by rw [back_any]; exact (allStar hs.2).1
  refine Call_ (ld_blt I hg hm boot_range (PyProof.Rows.callWith_type1 (thn (ha.run pos pins s σ H _ I h) fun us s1 ⟨vs, H1, I1, r1, q1⟩ => ?_) (star1 hs.1) pl))
  rcases q1 with ⟨n, rfl, q⟩ | ⟨i, n, rfl, q⟩
  · obtain ⟨u, rfl, t, rfl⟩ := vals1 r1
    exact call_range_1 ⟨_, 0, n, _, _, _, H1, rfl, IsRange.new _ _ _ _ _ _ _, I1.kept fun b u e => Heap.get?_push_of_some _ e, q⟩
  · obtain ⟨u, w', rfl, ⟨t, rfl⟩, ⟨t', rfl⟩⟩ := vals2 r1
    exact call_range_2 ⟨_, i, n, _, _, _, H1, rfl, IsRange.new _ _ _ _ _ _ _, I1.kept fun b u e => Heap.get?_push_of_some _ e, q⟩
/-- list(range(..)), tuple(range(..)) -/
theorem one_int {H : Hp} {F : List Addr} {vs : List V} {rs : List RV} {n : Int} (o : OpsOk X H F vs rs) (k : keeps rs = some [.int n]) : vs = [.int n] := by
  have h := o.kept k
  cases h with
  | cons h1 h2 => cases h2; cases h1; rfl
theorem two_int {H : Hp} {F : List Addr} {vs : List V} {rs : List RV} {i n : Int} (o : OpsOk X H F vs rs) (k : keeps rs = some [.int i, .int n]) : vs = [.int i, .int n] := by
  have h := o.kept k
  cases h with
  | cons h1 h2 =>
    cases h1
    cases h2 with
    | cons h3 h4 => cases h4; cases h3; rfl
theorem peRng {p p2 pos2 : Pos} {t : Bool} {a : Expr} {args : List Expr} {es : CL} {nm : Str} (hnm : nm = if t then ("tuple" : Str) else ("list" : Str)) (hc : X.calm = true) (hg : Gl X "range") (hm : X.mg "range" = none) (hg2 : Gl X nm) (hm2 : X.mg nm = none)
    (hs : (a :: args).all notStar = true) (ha : PA X (a :: args) (TLo X C es)) (hl : (a :: args).length = 1 ∨ (a :: args).length = 2) :
    PE X (.Call (.Name nm p2) [.Call (.Name "range" p) (a :: args) [] pos] [] pos2) (TEv X C (.rng t es)) := by
  have pr := prg (C := C) (xs := []) (rs := []) (ds := []) (p := p) (pos := pos) hg hm hs ha hl
  have rd : ∀ {σ : L2.St} {H : Hp} {Q : VK}, TEv X C (.rng t es) σ H Q → TLo X C es σ H fun vs H1 => ∀ R : Int → Int → Prop, (∀ a b, rngOk a b = true → (∀ v H', Nw X H1 H' v (if t = true then .val (.tuple (rngL a b)) else .own (ofL (rngL a b))) → Q v H') → R a b) →
      (∃ n, vs = [.int n] ∧ R 0 n) ∨ ∃ i n, vs = [.int i, .int n] ∧ R i n := by
    intro σ H Q ⟨env, F, r, env', ho, he, q⟩
    simp only [ev] at he
    split at he
    · cases he
    · rename_i rs e1 el
      obtain ⟨ds, ed, er⟩ := Option.bind_eq_some_iff.mp he
      obtain ⟨xs, ei, ez⟩ := Option.map_eq_some_iff.mp er
      cases ez
      refine ⟨env, F, rs, _, ho, tlo_of el (keeps_ok _ ed), fun vs H1 F1 G1 a1 o1 _ R hR => ?_⟩
      have fin : ∀ v H', Nw X H1 H' v (if t = true then .val (.tuple xs) else .own (ofL xs)) → Q v H' := fun v H' n => by
        obtain ⟨G, a2, rv, ap⟩ := nw_fin a1 n
        exact q v H' F1 G a2 rv ap
      rcases rng_some ei with ⟨n, rfl, h1, rfl⟩ | ⟨i, n, rfl, h1, rfl⟩
      · exact .inl ⟨n, one_int o1.2 ed, hR 0 n h1 fin⟩
      · exact .inr ⟨i, n, two_int o1.2 ed, hR i n h1 fin⟩
  have na : starEach [.Call (.Name "range" p) (a :: args) [] pos] X.env = (false, eval (.Call (.Name "range" p) (a :: args) [] pos) X.env) :: starEach [] X.env := rfl
  cases t with
  | true =>
    subst hnm
    refine (peTupRg hc hg2 hm2 pr na).of fun σ H Q h => ?_
    obtain ⟨env, F, rs, e1, ho, he, q⟩ := rd h
    refine ⟨env, F, rs, e1, ho, he, fun vs H1 F1 G1 a1 o1 p1 => q vs H1 F1 G1 a1 o1 p1 (fun a b => RgOk a b ∧ NewT H1 (rgV a b) Q) fun a b h1 h2 => ⟨rngOk_of h1, new_tup (RvA.ints a b) h2⟩⟩
  | false =>
    subst hnm
    refine (pe_listRg hc hg2 hm2 pr na).of fun σ H Q h => ?_
    obtain ⟨env, F, rs, e1, ho, he, q⟩ := rd h
    refine ⟨env, F, rs, e1, ho, he, fun vs H1 F1 G1 a1 o1 p1 => q vs H1 F1 G1 a1 o1 p1 (fun a b => RgOk a b ∧ ∀ q, H1 q = none → Q (.ref q) (upd H1 q (.lst (rgV a b)))) fun a b h1 h2 => ⟨rngOk_of h1, fun p hp => h2 _ _ (nw_list hp (RvA.ints a b))⟩⟩
/-! ### isinstance -/
def tyN : D → String
  | .none => "NoneType"
  | .bool _ => "bool"
  | .int _ => "int"
  | .str _ => "str"
  | .list _ => "list"
  | .tuple _ => "tuple"
  | .dict _ => "dict"
theorem ty_rv {H : Hp} {v : V} {d : D} (h : Rv X H v d) : TyX X.K H v (.type (tyN d)) := by
  cases h with
  | non => exact .base .non
  | bl b => exact .base (.bl b)
  | int i => exact .base (.int i)
  | str x => exact .base (.str x)
  | lst h1 h2 =>
    rcases h1 with ⟨_, h⟩ | ⟨o, h⟩ | ⟨us, m, h, _⟩
    · exact .base (.lst h)
    · exact .base (.frz h)
    · exact .kList h rfl
  | tup h1 h2 =>
    rcases h1 with ⟨o, h, _⟩ | ⟨o, us, m, h, hc, _⟩
    · exact .fTuple h
    · exact .kTuple h hc
  | dct h1 h2 =>
    rcases h1 with ⟨_, h⟩ | ⟨o, h⟩ | ⟨_, _, o, es, ep, vs, h, hx, _⟩
    · exact .base (.dK h)
    · exact .fDict h
    · exact .kDict h hx.1
def tyS : Ty → String
  | .int => "int"
  | .bool => "bool"
  | .str => "str"
  | .list => "list"
  | .tuple => "tuple"
  | .dict => "dict"
def tyO : D → Option Ty
  | .none => none
  | .bool _ => some .bool
  | .int _ => some .int
  | .str _ => some .str
  | .list _ => some .list
  | .tuple _ => some .tuple
  | .dict _ => some .dict
def isT : Option Ty → Ty → Bool
  | none, _ => false
  | some .bool, t => t == .int || t == .bool
  | some u, t => t == u
def tyM : Option Ty → String
  | none => "NoneType"
  | some u => tyS u
theorem kit_tab : ∀ (u : Option Ty) (t : Ty), kitB (tyM u) (tyS t) = some (isT u t) := by
  intro u t
  cases u with
  | none => cases t <;> decide +kernel
  | some u => cases u <;> cases t <;> decide +kernel
theorem isi_one {K : Frg} (d : D) (t : Ty) (b : Bool) (h : isiD d t = some b) : PySem.W.kitOne K (.type (tyN d)) (.type (tyS t)) = some b := by
  have h1 : isT (tyO d) t = b := by
    cases d with
    | dict kvs =>
      have h : (if isDct kvs then some (t == .dict) else none) = some b := h
      split at h
      · exact Option.some.inj h
      · cases h
    | _ => exact Option.some.inj h
  have h2 : tyN d = tyM (tyO d) := by cases d <;> rfl
  rw [h2, ← h1]
  exact kit_ty (kit_tab _ _)
theorem isi_any {K : Frg} {d : D} : ∀ {ts : List Ty} {b : Bool}, isiAny d ts = some b → PySem.W.kitAny K (.type (tyN d)) (ts.map fun t => Value.type (tyS t)) = some b
  | [], b, h => by cases h; rfl
  | t :: ts, b, h => by
    have h : (match isiD d t with
      | some true => some true
      | some false => isiAny d ts
      | none => none) = some b := h
    split at h
    · rename_i e
      cases h
      exact kitAny_cons (isi_one d t true e) (fun z => nomatch z) fun _ => rfl
    · rename_i e
      exact kitAny_cons (isi_one d t false e) (fun _ => isi_any h) fun z => nomatch z
    · cases h
theorem cls_tys : ∀ ts : List Ty, Paired ClsV (ts.map fun t => V.ty (tyS t)) (ts.map fun t => Value.type (tyS t))
  | [] => .nil
  | t :: ts => .cons (.ty _) (cls_tys ts)
end
end EV

set_option Elab.async false
set_option linter.all false
set_option maxRecDepth 100000
set_option maxHeartbeats 1000000
/-! EV15: isinstance, methods that look (own work, over the hand layer's rules). -/
namespace EV
open PySem PySem.Spec PyProof.Rows L2
section
variable {X : Cx} {C : Cfg} {pos : Pos}
theorem ty_boot : ∀ (t : Ty), bootBuiltins (Str.ofString (tyS t)) = some (.type (tyS t)) := by
  intro t
  cases t
  · exact boot_int
  · exact boot_bool
  · exact boot_str
  · exact boot_list
  · exact boot_tuple
  · exact boot_dict
theorem ty_name {x : Str} {t : Ty} (h : tyOf x = some t) : x = Str.ofString (tyS t) := by
  unfold tyOf at h
  repeat' split at h
  all_goals (try cases h)
  all_goals (rename_i e; exact e)
/-- a type's name -/
theorem pe_type {x : Str} {p : Pos} {t : Ty} (ht : tyOf x = some t) (hg : Gl X x) (hm : X.mg x = none) : PE X (.Name x p) (tC (.ty (tyS t))) := by
  obtain rfl := ty_name ht
  exact pe_bltn hg hm (ty_boot t) rfl (by cases t <;> decide) (by cases t <;> decide)
/-- what stands behind isinstance's comma -/
inductive TysOk (X : Cx) : Expr → List Ty → Prop
  | one {x : Str} {p : Pos} {t : Ty} : tyOf x = some t → Gl X x → X.mg x = none → TysOk X (.Name x p) [t]
  | tup {es : List Expr} {ts : List Ty} {k : Nat} {p : Pos} : Paired (fun e t => ∃ x q, e = .Name x q ∧ tyOf x = some t ∧ Gl X x ∧ X.mg x = none) es ts → ts.length ≤ sizeLine → TysOk X (.Tuple es k p) ts
theorem pa_types : ∀ {es : List Expr} {ts : List Ty}, Paired (fun e t => ∃ x q, e = Expr.Name x q ∧ tyOf x = some t ∧ Gl X x ∧ X.mg x = none) es ts → PA X es (fun _ H Q => Q (ts.map fun t => V.ty (tyS t)) H)
  | _, _, .nil => pa_nil
  | _, _, .cons h t => by
    obtain ⟨x, q, rfl, h1, h2, h3⟩ := h
    exact (pa_cons' (pe_type h1 h2 h3) (pa_types t) rfl).of fun σ H Q h => h
theorem peIsi {p : Pos} {a e : Expr} {a' : CE} {ts : List Ty} (hg : Gl X "isinstance") (hm : X.mg "isinstance" = none) (hs : notStar a = true) (ha : PE X a (TEv X C a')) (ht : TysOk X e ts) :
    PE X (.Call (.Name "isinstance" p) [a, e] [] pos) (TEv X C (.isi a' ts)) := by
  have st : ∀ {σ : L2.St} {H : Hp} {Q : VK}, TEv X C (.isi a' ts) σ H Q → TOp X C a' σ H fun x H1 => (∃ d b, Rv X H1 x d ∧ isiAny d ts = some b ∧ Q (.bl b) H1 ∧ ∀ H2, Same H1 H2 → Rv X H2 x d ∧ Q (.bl b) H2) := by
    intro σ H Q ⟨env, F, r, env', ho, he, q⟩
    simp only [ev] at he
    split at he
    · cases he
    · rename_i ra e1 ea
      obtain ⟨b, eb, ez⟩ := Option.map_eq_some_iff.mp he
      cases ez
      refine ⟨env, F, ra, _, ho, ea, fun x H1 F1 G1 a1 o1 _ => ⟨ra.view, b, o1.2.rv, eb, q _ H1 F1 [] a1 ⟨rfl, .bl b⟩ Apart.nil, fun H2 s => ⟨Rl.same s _ o1.2.rv, q _ H2 F1 [] (a1.more s) ⟨rfl, .bl b⟩ Apart.nil⟩⟩⟩
  cases ht with
  | one h1 h2 h3 =>
    rename_i x q t
    refine (pe_callB call_isi hg hm boot_isinstance (pa_cons' ha.op (pa_cons' (pe_type h1 h2 h3) pa_nil rfl) hs) (by decide) (by decide) (star1 hs) rfl).of fun σ H Q h => ?_
    obtain ⟨env, F, r, e1, ho, he, q2⟩ := st h
    refine ⟨env, F, r, e1, ho, he, fun v H1 F1 G1 a1 o1 p1 => ?_⟩
    obtain ⟨d, b, rv, eb, qq, _⟩ := q2 v H1 F1 G1 a1 o1 p1
    refine ⟨v, .ty (tyS t), .type (tyN d), .type (tyS t), b, rfl, .ty _, ty_rv rv, ?_, qq⟩
    have := isi_any (K := X.K) eb
    have h0 : (match PySem.W.kitOne X.K (.type (tyN d)) (.type (tyS t)) with
      | some true => some true
      | some false => some false
      | none => none) = some b := this
    cases hk : PySem.W.kitOne X.K (.type (tyN d)) (.type (tyS t)) with
    | none => rw [hk] at h0; cases h0
    | some c => rw [hk] at h0; cases c <;> exact h0
  | tup h1 h2 =>
    rename_i es k q
    refine (pe_callB call_isiT hg hm boot_isinstance (pa_cons' ha.op (pa_cons' (pe_tup (pa_types h1)) pa_nil rfl) hs) (by decide) (by decide) (star1 hs) rfl).of fun σ H Q h => ?_
    obtain ⟨env, F, r, e1, ho, he, q2⟩ := st h
    refine ⟨env, F, r, e1, ho, he, fun v H1 F1 G1 a1 o1 p1 => ?_⟩
    obtain ⟨d, b, rv, eb, _, qq⟩ := q2 v H1 F1 G1 a1 o1 p1
    refine ⟨by rw [List.length_map]; exact h2, fun p hp => ?_⟩
    obtain ⟨rv2, q3⟩ := qq _ (same_new (o := HO.tup (ts.map fun t => V.ty (tyS t))) hp)
    exact ⟨v, p, _, .type (tyN d), _, b, rfl, upd_same, cls_tys ts, ty_rv rv2, isi_any eb, q3⟩
/-! ### methods -/
/-- what a method of the value x needs; h: the arguments' reading -/
def MthR (X : Cx) (m : Str) (x : V) (H : Hp) (t : (List V → Hp → Prop) → Prop) (Q : VK) : Prop :=
  ∃ T id, PlainAttrs T ∧ PySem.Slot T m id ∧ typeOf (.builtin id) = pure (.type "method_descriptor") ∧
    (∀ (pins : List (Addr × Obj)) (σ : L2.St) (s : Shared) (v : Value), Inv X pins σ H s → RelV x v → s.TypeIs v T ∧ ∀ a, v = .ref a → ∃ ob, s.heap.get? a = some ob ∧ ob.dict = none) ∧
    t fun xs H2 => ∀ (pins : List (Addr × Obj)) (σ : L2.St) (s : Shared) (v : Value) (us : List Value), Inv X pins σ H2 s → RelV x v → Vals xs us → wpAny (model X.prog X.w) X.A (call (.builtin id) (v :: us)) (EP X pins σ Q) X.xe s
theorem base_ok {o : Expr} {m : Str} {env : Env} (h : baseOk o = true) : attributeBase o m env (eval o env) = eval o env := by
  cases o <;> first
    | rfl
    | cases h
theorem peMth {o e : Expr} {m : Str} {apos : Pos} {args : List Expr} {to : TE} {t : TA} (hb : baseOk o = true) (hline : (apos.endLine == pos.line) = true) (hs : (e :: args).all notStar = true) (hl : (e :: args).length < 29) (ho : PE X o to) (ha : PA X (e :: args) t) :
    PE X (.Call (.Attribute o m apos) (e :: args) [] pos) (fun σ H Q => to σ H fun x H1 => MthR X m x H1 (fun R => t σ H1 R) Q) := by
  refine ⟨fun pins s σ H Q I h => ?_⟩
  obtain ⟨s1, s2⟩ := allStar (env := X.env) hs
  have hs0 : notStar e = true := by rw [List.all_cons, Bool.and_eq_true] at hs; exact hs.1
  have few : ((backTo pos (starEach (e :: args) X.env)).all (fun x => !x.1) && (backToKw pos (keywordEach [] X.env)).all (fun x => x.1.isSome)
      && decide ((e :: args).length + ([] : List Keyword).length + (if ([] : List Keyword).isEmpty then 0 else 1) < 30)) = true := by
    rw [back_all, s2]
    show (true && true && decide ((e :: args).length + 0 + 0 < 30)) = true
    rw [decide_eq_true (by omega)]
    rfl
  have tr : backTo pos (starEach (e :: args) X.env) = (false, eval e X.env) :: backTo pos (starEach args X.env) := by rw [star1 hs0]; rfl
  refine wpAny_Call_method_late (base_ok hb) few hline tr (thn (ho.run pins s σ H _ I h) fun v s3 ⟨x, H1, I1, r1, T, id, pa, sl, hty, ht, q⟩ => ?_)
  obtain ⟨h1, h2⟩ := ht pins σ s3 v I1 r1
  refine ⟨T, id, pa, sl, hty, h1, h2, Calls.callWith_builtin (by rw [← tr, back_any]; exact s1) (Calls.evalArgs_plain ?_)⟩
  rw [← tr]
  exact thn (ha.run pos pins s3 σ H1 _ I1 q) fun us s4 ⟨vs, H2, I2, r2, g⟩ => g pins σ s4 v us I2 r1 r2
theorem peMth0 {o : Expr} {m : Str} {apos : Pos} {to : TE} (hb : baseOk o = true) (hline : (apos.endLine == pos.line) = true) (ho : PE X o to) :
    PE X (.Call (.Attribute o m apos) [] [] pos) (fun σ H Q => to σ H fun x H1 => MthR X m x H1 (fun R => R [] H1) Q) := by
  refine ⟨fun pins s σ H Q I h => ?_⟩
  refine wpAny_Call_method0_late (base_ok hb) hline (thn (ho.run pins s σ H _ I h) fun v s1 ⟨x, H1, I1, r1, T, id, pa, sl, hty, ht, q⟩ => ?_)
  obtain ⟨h1, h2⟩ := ht pins σ s1 v I1 r1
  exact ⟨T, id, pa, sl, hty, h1, h2, Calls.callWith_builtin rfl (PySem.evalArgs_none (q pins σ s1 v [] I1 r1 .nil))⟩
/-! ### index, get -/
theorem vals_get : ∀ {vs : List V} {us : List Value} {j : Nat} {v : V}, Vals vs us → vs[j]? = some v → ∃ u, us[j]? = some u ∧ RelV v u
  | _, _, _, _, .nil, e => by simp at e
  | _, _, 0, _, .cons r _, e => by simp at e; subst e; exact ⟨_, rfl, r⟩
  | _, _, j + 1, _, .cons _ t, e => by
    obtain ⟨u, h1, h2⟩ := vals_get t (j := j) (by simpa using e)
    exact ⟨u, by simpa using h1, h2⟩
theorem items_eq (hR : Roomy X) {pins : List (Addr × Obj)} {σ : L2.St} {H : Hp} {s : Shared} {vs : List V} {us : List Value} {ds : List D} {x : V} {u : Value} {dx : D} (I : Inv X pins σ H s) (rv : Vals vs us) (rx : RelV x u)
    (h : RvA X H vs ds) (hx : Rv X H x dx) (sd : ds.all SeqAt.shaped = true) (sx : SeqAt.shaped dx = true) : SeqAt.ItemsEq X.A.in1 s us (ds.map fun d => PyData.eqv d dx) u true := by
  refine ⟨by rw [List.length_map, ← h.length, rv.length], fun j h1 h2 => ?_⟩
  have hj : j < ds.length := by rw [List.length_map] at h2; exact h2
  obtain ⟨v, e1, rl⟩ := h.get (List.getElem?_eq_getElem hj)
  obtain ⟨u', e2, rr⟩ := vals_get rv e1
  rw [List.getElem?_eq_getElem h1] at e2
  cases e2
  have sj : SeqAt.shaped ds[j] = true := List.all_eq_true.mp sd _ (List.getElem_mem hj)
  obtain ⟨as, r1⟩ := rl.reads I rr (shaped_nd sj)
  obtain ⟨bs, r2⟩ := hx.reads I rx (shaped_nd sx)
  have d64 := SeqAt.depth_of_shaped sx
  have hu := hR.1
  have key := SeqAt.eqAt_reads ds[j] dx X.A.in1 s us[j] u as bs r1 r2 (SeqAt.canLay_of_shaped sj) (SeqAt.canLay_of_shaped sx) (by
    have : min ds[j].depth dx.depth ≤ dx.depth := Nat.min_le_right _ _
    show X.A.units + 1 + min ds[j].depth dx.depth < cLine
    omega)
  rw [List.getElem_map]
  simpa using key
theorem index_some {ds : List D} {x : D} {n : Int} (h : indexOf ds x = some n) : SeqAt.shaped x = true ∧ ds.all SeqAt.shaped = true ∧ true ∈ (ds.map fun d => PyData.eqv d x) ∧ n = (((ds.map fun d => PyData.eqv d x).idxOf true : Nat) : Int) := by
  have h : (if (SeqAt.shaped x && ds.all SeqAt.shaped && (ds.map fun d => PyData.eqv d x).contains true) = true then some (((ds.map fun d => PyData.eqv d x).idxOf true : Nat) : Int) else none) = some n := h
  obtain ⟨h1, h2⟩ := guard_some h
  rw [Bool.and_eq_true, Bool.and_eq_true] at h1
  exact ⟨h1.1.1, h1.1.2, by simpa using h1.2, h2.symm⟩
def mthS : Mth → Str
  | .index => "index"
  | .get => "get"
  | _ => "?"
end
end EV

set_option Elab.async false
set_option linter.all false
set_option maxRecDepth 100000
set_option maxHeartbeats 1000000
/-! EV16: methods of values; places; methods that change an object (own work, over the hand layer's rules). -/
namespace EV
open PySem PySem.Spec PyProof.Rows L2
section
variable {X : Cx} {C : Cfg} {pos : Pos}
theorem lr_obj {pins : List (Addr × Obj)} {σ : L2.St} {H : Hp} {s : Shared} {a : Addr} {vs : List V} {st : Bool} (I : Inv X pins σ H s) (h : LR st X.K H a vs) :
    (s.TypeIs (.ref a) "list" ∧ ∀ b, Value.ref a = .ref b → ∃ ob, s.heap.get? b = some ob ∧ ob.dict = none) ∧ ∃ us : List Value, Vals vs us ∧ s.heap.IsList a us.toArray := by
  obtain ⟨_, us, n, r, _, e⟩ := lst_at I h
  refine ⟨⟨⟨_, e, rfl⟩, fun b z => ?_⟩, us, r, _, e, rfl, n, rfl⟩
  cases z
  exact ⟨_, e, rfl⟩
theorem dr_obj {pins : List (Addr × Obj)} {σ : L2.St} {H : Hp} {s : Shared} {a : Addr} {kvs : List (Key × V)} {st : Bool} (I : Inv X pins σ H s) (h : DR st X.prog X.w X.K H a kvs) :
    s.TypeIs (.ref a) "dict" ∧ ∀ b, Value.ref a = .ref b → ∃ ob, s.heap.get? b = some ob ∧ ob.dict = none := by
  obtain ⟨_, _, vs, _, ob, es, ep, e, ex, _⟩ := dict_at I h
  refine ⟨⟨ob, e, ex.1⟩, fun b z => ?_⟩
  cases z
  exact ⟨ob, e, ex.2.1⟩
theorem tr_obj {pins : List (Addr × Obj)} {σ : L2.St} {H : Hp} {s : Shared} {a : Addr} {vs : List V} (I : Inv X pins σ H s) (h : TR X.K H a vs) :
    s.TypeIs (.ref a) "tuple" ∧ ∀ b, Value.ref a = .ref b → ∃ ob, s.heap.get? b = some ob ∧ ob.dict = none := by
  obtain ⟨ob, e, hc, hd⟩ := h.obj I
  refine ⟨⟨ob, e, hc⟩, fun b z => ?_⟩
  cases z
  exact ⟨ob, e, hd⟩
theorem two_vals {x y : V} {us : List Value} (r : Vals [x, y] us) : ∃ u w', us = [u, w'] ∧ RelV x u ∧ RelV y w' := vals2 r
theorem rs1 {H : Hp} {vs : List V} {d : D} (h : RsA X H vs [d]) : ∃ v, vs = [v] ∧ Rs X H v d := by
  cases h with
  | cons h1 h2 => cases h2; exact ⟨_, rfl, h1⟩
theorem rs2 {H : Hp} {vs : List V} {d d' : D} (h : RsA X H vs [d, d']) : ∃ v v', vs = [v, v'] ∧ Rs X H v d ∧ Rs X H v' d' := by
  cases h with
  | cons h1 h2 =>
    obtain ⟨v', rfl, h3⟩ := rs1 h2
    exact ⟨_, _, rfl, h1, h3⟩
/-- dict.get, d: what stands for a key that is not there -/
theorem get_D {H2 : Hp} {a : Addr} {kvs : List (Key × V)} {kds : List (D × D)} {q : Key} {vd : V} {dd0 : D} {Q : VK} (h4 : RlK true X.prog X.w X.K H2 kvs kds) (hd0 : Rs X H2 vd dd0) (qq : ∀ v H', Nw X H2 H' v (.val ((findK kds q).getD dd0)) → Q v H') :
    ∃ z, z = (valV kvs q).getD vd ∧ Q z H2 := by
  refine ⟨_, rfl, ?_⟩
  rcases findK_rel q h4 with ⟨e3, e4⟩ | ⟨d, z, e3, e4, hzz⟩
  · rw [e4]; rw [e3] at qq
    exact qq _ H2 (nw_same hd0)
  · rw [e4]; rw [e3] at qq
    exact qq _ H2 (nw_same hzz)
/-- a method that looks, by data -/
theorem mth_D (hR : Roomy X) {m : Mth} {d : D} {ds : List D} {r : RV} (e : mthR m d ds = some r) {H1 : Hp} {x : V} (hx : Rv X H1 x d) {t : (List V → Hp → Prop) → Prop} {Q : VK}
    (ht : t fun vs H2 => Px X H2 x d ∧ RsA X H2 vs ds ∧ ∀ v H', Nw X H2 H' v r → Q v H') (mono : ∀ R R' : List V → Hp → Prop, (∀ vs H, R vs H → R' vs H) → t R → t R') :
    MthR X (mthS m) x H1 t Q := by
  match m, d, ds, e with
  | .index, .list xs, [y], e =>
    obtain ⟨n, en, rfl⟩ := Option.map_eq_some_iff.mp (show (indexOf xs y).map (fun n => RV.val (.int n)) = some r from e)
    obtain ⟨s1, s2, s3, rfl⟩ := index_some en
    obtain ⟨a, vs, rfl, h1, h2⟩ := rv_list hx
    refine ⟨"list", "list.index", PySem.F.plainAttrs_list, PySem.F.slot_list_index, PySem.F.type_list_index, fun pins σ s v I rv => ?_, mono _ _ (fun ws H2 hq => ?_) ht⟩
    · cases rv
      exact (lr_obj I h1).1
    · obtain ⟨g1, g2, q⟩ := hq
      intro pins σ s v us I rv rs
      cases rv
      obtain ⟨z, rfl, g3⟩ := rs1 g2
      obtain ⟨a', vs', e1, h3, h4⟩ := g1
      cases e1
      obtain ⟨u, rfl, ru⟩ := vals1 rs
      obtain ⟨⟨_, _⟩, its, rit, hl⟩ := lr_obj I h3
      have zl := (lst_at I h3).1
      exact SeqAt.call_list_index hl (items_eq hR I rit ru (RlA.weak _ h4) (Rl.weak _ g3) s2 s1) (by rw [List.length_map, ← h4.length]; exact zl) s3 ⟨.int _, H2, I.tok _, ⟨_, rfl⟩, q _ H2 (nw_same (.int _))⟩
  | .index, .tuple xs, [y], e =>
    obtain ⟨n, en, rfl⟩ := Option.map_eq_some_iff.mp (show (indexOf xs y).map (fun n => RV.val (.int n)) = some r from e)
    obtain ⟨s1, s2, s3, rfl⟩ := index_some en
    obtain ⟨a, vs, rfl, h1, h2⟩ := rv_tup hx
    refine ⟨"tuple", "tuple.index", PySem.F.plainAttrs_tuple, PySem.F.slot_tuple_index, PySem.F.type_tuple_index, fun pins σ s v I rv => ?_, mono _ _ (fun ws H2 hq => ?_) ht⟩
    · cases rv
      exact tr_obj I h1
    · obtain ⟨g1, g2, q⟩ := hq
      intro pins σ s v us I rv rs
      cases rv
      obtain ⟨z, rfl, g3⟩ := rs1 g2
      obtain ⟨a', vs', e1, h3, h4⟩ := rv_tup g1.rv
      cases e1
      obtain ⟨u, rfl, ru⟩ := vals1 rs
      obtain ⟨its, rit, hl, _⟩ := I.tuple h3.sq
      exact SeqAt.call_tuple_index hl (items_eq hR I rit ru h4 (Rl.weak _ g3) s2 s1) s3 ⟨.int _, H2, I.tok _, ⟨_, rfl⟩, q _ H2 (nw_same (.int _))⟩
  | .get, .dict kds, [k], e =>
    have e : (match dK k with
      | some q => if plainKs kds then some (RV.val ((findK kds q).getD .none)) else none
      | none => none) = some r := e
    split at e
    · rename_i q eq
      split at e
      · cases e
        cases hx with
        | @dct a kvs _ h1 h2 =>
          refine ⟨"dict", "dict.get", PySem.F.plainAttrs_dict, PySem.F.slot_dict_get, PySem.F.type_dict_get, fun pins σ s v I rv => ?_, mono _ _ (fun ws H2 hq => ?_) ht⟩
          · cases rv
            exact dr_obj I h1
          · obtain ⟨g1, g2, qq⟩ := hq
            intro pins σ s v us I rv rs
            cases rv
            obtain ⟨z, rfl, g3⟩ := rs1 g2
            obtain ⟨a', kvs', e1, h3, h4⟩ := g1
            cases e1
            obtain ⟨u, rfl, ru⟩ := vals1 rs
            obtain rfl := key_rel (Rl.weak _ g3) eq
            obtain ⟨hz, hd, xs, rel, dd⟩ := dict_at I h3
            obtain ⟨_, rfl, qz⟩ := get_D (a := a) h4 (Rl.non : Rs X H2 .non .none) qq
            exact call_meetsIn PySem.F.slot_dict_get dd.typeIs PySem.F.entry_dict_get (PySem.F.args_dict_get_2 _ _) (meets_dict_get (mixKind X.prog X.w) a (kV_is ru) hd) ⟨_, dd.mapOf, ⟨_, H2, I.tok _, (rel.val q).getD (show RelV V.non Value.none from rfl), qz⟩⟩
      · cases e
    · cases e
  | .get, .dict kds, [k, dd0], e =>
    have e : (match dK k with
      | some q => if plainKs kds then some (RV.val ((findK kds q).getD dd0)) else none
      | none => none) = some r := e
    split at e
    · rename_i q eq
      split at e
      · cases e
        cases hx with
        | @dct a kvs _ h1 h2 =>
          refine ⟨"dict", "dict.get", PySem.F.plainAttrs_dict, PySem.F.slot_dict_get, PySem.F.type_dict_get, fun pins σ s v I rv => ?_, mono _ _ (fun ws H2 hq => ?_) ht⟩
          · cases rv
            exact dr_obj I h1
          · obtain ⟨g1, g2, qq⟩ := hq
            intro pins σ s v us I rv rs
            cases rv
            obtain ⟨z, z', rfl, g3, g4⟩ := rs2 g2
            obtain ⟨a', kvs', e1, h3, h4⟩ := g1
            cases e1
            obtain ⟨u, u', rfl, ru, ru'⟩ := vals2 rs
            obtain rfl := key_rel (Rl.weak _ g3) eq
            obtain ⟨hz, hd, xs, rel, dd⟩ := dict_at I h3
            obtain ⟨_, rfl, qz⟩ := get_D (a := a) h4 g4 qq
            exact call_meetsIn PySem.F.slot_dict_get dd.typeIs PySem.F.entry_dict_get (PySem.F.args_dict_get_3 _ _ _) (meets_dict_get_default (mixKind X.prog X.w) a (kV_is ru) hd u') ⟨_, dd.mapOf, ⟨_, H2, I.tok _, (rel.val q).getD ru', qz⟩⟩
      · cases e
    · cases e
theorem mth_name {x : Str} {m : Mth} (h : cMth x = some m) : x = mthS m := by
  unfold cMth at h
  split at h
  · rename_i e; cases h; exact e
  split at h
  · rename_i e; cases h; exact e
  · cases h
theorem tlo_mono {es : CL} {σ : L2.St} {H : Hp} {R R' : List V → Hp → Prop} (hi : ∀ vs H, R vs H → R' vs H) (h : TLo X C es σ H R) : TLo X C es σ H R' := by
  obtain ⟨env, F, rs, e1, ho, he, q⟩ := h
  exact ⟨env, F, rs, e1, ho, he, fun b H' F' G a b' c => hi _ _ (q b H' F' G a b' c)⟩
theorem evMth (hR : Roomy X) {o e : Expr} {o' : CE} {x : Str} {m : Mth} {apos : Pos} {args : List Expr} {es : CL} (hm : cMth x = some m) (hb : baseOk o = true) (hline : (apos.endLine == pos.line) = true) (hs : (e :: args).all notStar = true) (hl : (e :: args).length < 29)
    (ho : PE X o (TEv X C o')) (ha : PA X (e :: args) (TLo X C es)) : PE X (.Call (.Attribute o x apos) (e :: args) [] pos) (TEv X C (.mth m o' es)) := by
  obtain rfl := mth_name hm
  refine (peMth hb hline hs hl ho.op ha).of fun σ H Q ⟨env, F, r, env', hok, he, q⟩ => ?_
  simp only [ev] at he
  split at he
  · cases he
  · rename_i ro e1 eo
    split at he
    · cases he
    · rename_i rs e2 el
      split at he
      · cases he
      · rename_i hn
        obtain ⟨d, ed, he⟩ := Option.bind_eq_some_iff.mp he
        obtain ⟨ds, eds, he⟩ := Option.bind_eq_some_iff.mp he
        obtain ⟨r', er, ez⟩ := Option.map_eq_some_iff.mp he
        cases ez
        refine ⟨env, F, ro, e1, hok, eo, fun v H1 F1 G1 a1 o1 _ => ?_⟩
        have hx := (o1.2.px ed).rv
        refine mth_D hR er hx ⟨e1, F1, rs, _, a1.ok, tlo_of el (keeps_ok _ eds), fun vs H2 F2 G2 a2 o2 _ => ⟨(o1.2.keep a2 (brw_and hn)).px ed, o2.2.kept eds, fun v' H' n => ?_⟩⟩ fun R R' hi h => tlo_mono hi h
        obtain ⟨G, a3, rv, ap⟩ := nw_fin (a1.trans a2 (r := pureE o' && pureL es) fun z => and2 z) n
        exact q v' H' F2 G a3 rv ap
end
end EV

set_option Elab.async false
set_option linter.all false
set_option maxRecDepth 100000
set_option maxHeartbeats 1000000
/-! EV17: places and what changes there (own work, over the hand layer's rules). -/
namespace EV
open PySem PySem.Spec PyProof.Rows L2
section
variable {X : Cx} {C : Cfg} {pos : Pos}
theorem AtV.uniq {H : Hp} {v v1 v2 : V} {k : D} (h : AtV H v k v1) (g : AtV H v k v2) : v1 = v2 := by
  rcases h with ⟨a, vs, i, rfl, h1, rfl, h2⟩ | ⟨a, kvs, q, rfl, h1, h2, h3⟩
  · rcases g with ⟨a', vs', i', e, g1, e', g2⟩ | ⟨a', kvs', q', e, g1, _⟩
    · cases e; cases e'
      rw [h1] at g1; cases g1
      rw [h2] at g2
      exact Option.some.inj g2
    · cases e
      rw [h1] at g1; cases g1
  · rcases g with ⟨a', vs', i', e, g1, _⟩ | ⟨a', kvs', q', e, g1, g2, g3⟩
    · cases e
      rw [h1] at g1; cases g1
    · cases e
      rw [h1] at g1; cases g1
      rw [h2] at g2; cases g2
      rw [h3] at g3
      exact Option.some.inj g3
theorem Pth.uniq {H : Hp} : ∀ {ks : List D} {v v1 v2 : V}, Pth H v ks v1 → Pth H v ks v2 → v1 = v2
  | [], _, _, _, .nil, .nil => rfl
  | _ :: _, _, _, _, .cons h t, .cons h' t' => by
    obtain rfl := h.uniq h'
    exact Pth.uniq t t'
theorem Pth.snoc {H : Hp} {k : D} {v2 : V} : ∀ {ks : List D} {v v1 : V}, Pth H v ks v1 → AtV H v1 k v2 → Pth H v (ks ++ [k]) v2
  | [], _, _, .nil, h => .cons h .nil
  | _ :: _, _, _, .cons h t, g => .cons h (Pth.snoc t g)
theorem AtV.keep {H H' : Hp} {v v1 : V} {k : D} {o o1 : O} {F : List Addr} (ow : Ow X.prog X.w X.K H v o F) (e : ∀ a ∈ F, H' a = H a) (ho : o.at k = some o1) (h : AtV H v k v1) : AtV H' v k v1 := by
  have mem : ∀ a, v = .ref a → a ∈ F := by
    rintro a rfl
    cases ow with
    | imm _ => simp [O.at] at ho
    | lst _ _ _ => exact List.mem_cons_self
    | dct _ _ _ _ => exact List.mem_cons_self
  rcases h with ⟨a, vs, i, ev, h1, e2, h2⟩ | ⟨a, kvs, q, ev, h1, h2, h3⟩
  · exact .inl ⟨a, vs, i, ev, (e a (mem a ev)).trans h1, e2, h2⟩
  · exact .inr ⟨a, kvs, q, ev, (e a (mem a ev)).trans h1, h2, h3⟩
theorem Pth.keep {H H' : Hp} : ∀ {ks : List D} {v v1 : V} {o o1 : O} {F : List Addr}, Ow X.prog X.w X.K H v o F → (∀ a ∈ F, H' a = H a) → atP o ks = some o1 → Pth H v ks v1 → Pth H' v ks v1
  | [], _, _, _, _, _, _, _, _, .nil => .nil
  | k :: ks, v, _, o, o1, F, ow, e, ho, .cons h t => by
    obtain ⟨om, e1, e2⟩ := Option.bind_eq_some_iff.mp (show (o.at k).bind (fun o' => atP o' ks) = some o1 from ho)
    obtain ⟨vm, Fm, am, owm, sub, _⟩ := ow.at e1
    obtain rfl := am.uniq h
    exact .cons (AtV.keep ow e e1 h) (Pth.keep owm (fun a ha => e a (sub a ha)) e2 t)
theorem atP_snoc {k : D} {o1 : O} : ∀ {ks : List D} {o : O}, atP o (ks ++ [k]) = some o1 → ∃ om, atP o ks = some om ∧ om.at k = some o1
  | [], o, h => by
    obtain ⟨om, e1, e2⟩ := Option.bind_eq_some_iff.mp (show (o.at k).bind (fun o' => atP o' []) = some o1 from h)
    cases e2
    exact ⟨o, rfl, e1⟩
  | k' :: ks, o, h => by
    obtain ⟨om, e1, e2⟩ := Option.bind_eq_some_iff.mp (show (o.at k').bind (fun o' => atP o' (ks ++ [k])) = some o1 from h)
    obtain ⟨o2, e3, e4⟩ := atP_snoc e2
    refine ⟨o2, ?_, e4⟩
    show (o.at k').bind (fun o' => atP o' ks) = some o2
    rw [e1]
    exact e3
theorem evL_app {q : CL} : ∀ {p : CL} {env env' : Ev} {rs : List RV}, evL C (appL p q) env = some (rs, env') → ∃ r1 e1 r2, evL C p env = some (r1, e1) ∧ evL C q e1 = some (r2, env') ∧ rs = r1 ++ r2
  | .nil, env, env', rs, h => ⟨[], env, rs, rfl, h, rfl⟩
  | .cons e es, env, env', rs, h => by
    obtain ⟨r, e1, rs', h1, h2, rfl⟩ := evL_cons (show evL C (.cons e (appL es q)) env = some (rs, env') from h)
    obtain ⟨r1, e2, r2, h3, h4, rfl⟩ := evL_app h2
    refine ⟨r :: r1, e2, r2, ?_, h4, rfl⟩
    simp only [evL, h1, h3]
    rfl
theorem pureL_app : ∀ {p q : CL}, pureL (appL p q) = (pureL p && pureL q)
  | .nil, q => by simp [appL, pureL]
  | .cons e es, q => by simp [appL, pureL, pureL_app, Bool.and_assoc]
theorem keeps_app : ∀ {r1 r2 : List RV} {ds : List D}, keeps (r1 ++ r2) = some ds → ∃ d1 d2, keeps r1 = some d1 ∧ keeps r2 = some d2 ∧ ds = d1 ++ d2
  | [], r2, ds, h => ⟨[], ds, rfl, h, rfl⟩
  | r :: r1, r2, ds, h => by
    obtain ⟨d, ds', e1, e2, rfl⟩ := keeps_some (show keeps (r :: (r1 ++ r2)) = some ds from h)
    obtain ⟨d1, d2, e3, e4, rfl⟩ := keeps_app e2
    refine ⟨d :: d1, d2, ?_, e4, rfl⟩
    show (r.keep.bind fun d => (keeps r1).map (d :: ·)) = some (d :: d1)
    rw [e1, e3]
    rfl
/-- a part of an own object, by where it stands -/
theorem ix_at : IxR X (fun x y H Q => ∃ k v1, Rs X H y k ∧ AtV H x k v1 ∧ Q v1 H) := by
  intro value slice pins s σ H x y v u Q I rx ry ⟨k, v1, hy, at_, q⟩ hs
  rcases at_ with ⟨a, vs, i, rfl, h1, rfl, e2⟩ | ⟨a, kvs, kk, rfl, h1, e3, e2⟩
  · cases hy
    exact idx_seq I rx ry (.inl (.inl (.inl h1))) e2 q hs
  · obtain rfl := key_rel (Rl.weak _ hy) e3
    exact idx_dict I rx ry (.inl ⟨rfl, h1⟩) e2 q hs
/-- a place is read: the slot i, the keys behind it -/
def TPl (X : Cx) (C : Cfg) (i : Nat) (path : CL) : TE := fun σ H Q => ∃ env F ps e1 ks o1, EnvOk X.prog X.w X.K H σ env F ∧ evL C path env = some (ps, e1) ∧ pureL path = true ∧ keeps ps = some ks ∧ placeAt e1 i ks = some o1 ∧
  ∀ v H' F', Aft X σ true H env F H' e1 F' → (∃ v0, σ[i]? = some (some v0) ∧ Pth H' v0 ks v) → Q v H'
theorem place_some {env : Ev} {i : Nat} {ks : List D} {o1 : O} (h : placeAt env i ks = some o1) : ∃ o, env[i]? = some (some (.own o)) ∧ atP o ks = some o1 := by
  unfold placeAt at h
  split at h
  · rename_i o e
    exact ⟨o, e, h⟩
  · cases h
theorem pl_name {i : Nat} {x : Str} (hN : X.N[i]? = some x) (hv : Vis X.env.scope x) (hd : (x == ("__debug__" : Str)) = false) (hcd : (x == ("__classdict__" : Str)) = false) : PE X (.Name x pos) (TPl X C i .nil) := by
  refine (pe_var hN hv hd hcd).of fun σ H Q ⟨env, F, ps, e1, ks, o1, ho, he, _, hk, hp, q⟩ => ?_
  have he : some ([], env) = some (ps, e1) := he
  cases he
  cases hk
  obtain ⟨o, e2, _⟩ := place_some hp
  obtain ⟨x1, G, e3, s1, sub, _⟩ := ho.at e2
  obtain ⟨v, rfl, ow⟩ := s1
  exact ⟨v, e3, q v H F (Aft.refl ho) ⟨v, e3, .nil⟩⟩
theorem pl_sub {o k : Expr} {k' : CE} {i : Nat} {path : CL} (hs : PlainIx k) (ho : PE X o (TPl X C i path)) (hk : PE X k (TEv X C k')) : PE X (.Subscript o k pos) (TPl X C i (appL path (.cons k' .nil))) := by
  refine (pe_ix ix_at ho hk.op hs).of fun σ H Q ⟨env, F, ps, e2, ks, o1, hok, he, hpu, hke, hp, q⟩ => ?_
  rw [pureL_app] at hpu
  obtain ⟨pu1, pu2⟩ := and2 hpu
  obtain ⟨r1, e1, r2, h1, h2, rfl⟩ := evL_app he
  obtain ⟨rk, e3, r3, h3, h4, rfl⟩ := evL_cons h2
  have h4 : some ([], e3) = some (r3, e2) := h4
  cases h4
  obtain ⟨d1, d2, k1, k2, rfl⟩ := keeps_app hke
  obtain ⟨d, d3, k3, k4, rfl⟩ := keeps_some k2
  have k4 : some [] = some d3 := k4
  cases k4
  have puk : pureE k' = true := by
    have : (pureE k' && true) = true := pu2
    simpa using this
  obtain rfl := pure_evL pu1 h1
  obtain rfl := pure_ev puk h3
  obtain ⟨o, eo, ap⟩ := place_some hp
  obtain ⟨om, em, e5⟩ := atP_snoc ap
  have hpl : placeAt e2 i d1 = some om := by
    unfold placeAt
    rw [eo]
    exact em
  refine ⟨e2, F, r1, e2, d1, om, hok, h1, pu1, k1, hpl, fun x H1 F1 a1 ⟨v0, ev0, pth⟩ => ⟨e2, F1, rk, e2, a1.ok, h3, fun y H2 F2 G2 a2 o2 _ => ?_⟩⟩
  have kd : d1 ++ [d] = d1 ++ [d] := rfl
  -- where the place stands now
  obtain ⟨x1, G, e6, s1, sub, _⟩ := a2.ok.at eo
  obtain ⟨v0', ex1, ow⟩ := s1
  rw [ev0] at e6
  cases e6
  cases ex1
  obtain ⟨_, r2', r3'⟩ := a2.pur puk
  -- the path is as it was
  obtain ⟨x2, G1, e7, s2, sub1, _⟩ := a1.ok.at eo
  obtain ⟨v1', ex2, ow1⟩ := s2
  rw [ev0] at e7
  cases e7
  cases ex2
  have pth2 := Pth.keep ow1 (fun a ha => r3' a (sub1 a ha)) em pth
  obtain ⟨xm, Fm, pm, owm, _, _⟩ := ow.path em
  obtain rfl := pth2.uniq pm
  obtain ⟨v1, F1', at_, _, _, _⟩ := owm.at e5
  exact ⟨d, v1, o2.2.kept k3, at_, q v1 H2 F2 (a1.trans a2 fun _ => ⟨rfl, puk⟩) ⟨_, ev0, pth2.snoc at_⟩⟩
end
end EV

set_option Elab.async false
set_option linter.all false
set_option maxRecDepth 100000
set_option maxHeartbeats 1000000
/-! EV18: methods that change a list; o[k] = e (own work, over the hand layer's rules). -/
namespace EV
open PySem PySem.Spec PyProof.Rows L2
section
variable {X : Cx} {C : Cfg} {pos : Pos}
/-- extend by any list that is read -/
theorem mt_extendA : MtM X "list.extend" (fun x vs H Q => ∃ l b xs zs, x = .ref l ∧ vs = [.ref b] ∧ H l = some (.lst xs) ∧ LR false X.K H b zs ∧ xs.length + zs.length ≤ sizeLine ∧ Q .non (upd H l (.lst (xs ++ zs)))) := by
  intro pins s σ H x vs v us Q I rx rv hh
  obtain ⟨l, b, xs, zs, rfl, rfl, hl, hb, hz, q⟩ := hh
  cases rx
  obtain ⟨u, rfl, ru⟩ := rv.one
  cases ru
  obtain ⟨_, is, n, r1, e1, o1⟩ := I.lstM hl
  obtain ⟨_, js, m, r2, e2, o2⟩ := lst_at I hb
  have sz : is.toArray.size + js.toArray.size ≤ sizeLine := by rw [List.size_toArray, List.size_toArray]; omega
  have lg : ¬ (!is.toArray.isEmpty && Builtin.List.listTooLong (is.toArray.size + js.toArray.size)) = true := by rw [notLongL sz, Bool.and_false]; decide
  refine call_meets F.slot_list_extend ⟨_, o1, rfl⟩ F.entry_list_extend (F.args_list_extend_2 _ _) (AutoSeq1.list_extend_list_list_0 l is.toArray n b js.toArray m lg (by omega) (by omega)) ⟨o1, o2, ?_⟩
  exact ⟨.non, _, I.lset (its' := is ++ js) (t' := s.toks) hl o1 (by simp) (r1.append r2) (by rw [List.length_append]; exact hz), rfl, q⟩
/-! ### own lists that change -/
theorem Ows.snoc {H : Hp} {v : V} {o : O} {G : List Addr} (hv : Ow X.prog X.w X.K H v o G) : ∀ {vs : List V} {os : List O} {F : List Addr}, Ows X.prog X.w X.K H vs os F → (∀ a ∈ F, a ∉ G) → ∃ F', Ows X.prog X.w X.K H (vs ++ [v]) (os ++ [o]) F' ∧ ∀ a, a ∈ F' ↔ a ∈ F ∨ a ∈ G
  | _, _, _, .nil, _ => ⟨G ++ [], .cons hv .nil (fun a _ h => by simp at h), fun a => by simp⟩
  | _, _, _, @Ows.cons _ _ _ _ v1 o1 vs os F1 F2 h1 h2 h3, d => by
    obtain ⟨F', r1, r2⟩ := Ows.snoc hv h2 fun a ha => d a (List.mem_append_right _ ha)
    refine ⟨F1 ++ F', .cons h1 r1 fun a ha hb => ?_, fun a => ?_⟩
    · rcases (r2 a).mp hb with z | z
      · exact h3 a ha z
      · exact d a (List.mem_append_left _ ha) z
    · rw [List.mem_append, List.mem_append, r2 a, or_assoc]
theorem Ows.imms {H : Hp} : ∀ {vs ws : List V} {os : List O} {ds : List D} {F : List Addr}, Ows X.prog X.w X.K H vs os F → RsA X H ws ds → Ows X.prog X.w X.K H (vs ++ ws) (os ++ ds.map .imm) F
  | _, _, _, _, _, .nil, h => ows_imm h
  | _, _, _, _, _, .cons h1 h2 h3, h => .cons h1 (Ows.imms h2 h) h3
theorem Ows.last {H : Hp} {d : D} : ∀ {vs : List V} {os : List O} {F : List Addr}, Ows X.prog X.w X.K H vs os F → os.getLast? = some (.imm d) → ∃ v, vs[vs.length - 1]? = some v ∧ Rs X H v d ∧ ∃ F', Ows X.prog X.w X.K H vs.dropLast os.dropLast F' ∧ ∀ a ∈ F', a ∈ F
  | _, _, _, .nil, h => by simp at h
  | _, _, _, @Ows.cons _ _ _ _ v o [] os F G h1 h2 h3, h => by
    cases h2
    have h : some o = some (.imm d) := h
    cases h
    cases h1 with
    | imm h1 => exact ⟨v, rfl, h1, [], .nil, fun a ha => by simp at ha⟩
  | _, _, _, @Ows.cons _ _ _ _ v o (v2 :: vs) (o2 :: os) F G h1 h2 h3, h => by
    have h : (o2 :: os).getLast? = some (.imm d) := by
      rw [List.getLast?_cons_cons] at h
      exact h
    obtain ⟨z, e1, rl, F', r1, r2⟩ := Ows.last h2 h
    refine ⟨z, by simpa using e1, rl, F ++ F', .cons h1 r1 fun a ha hb => h3 a ha (r2 a hb), fun a ha => ?_⟩
    rcases List.mem_append.mp ha with q | q
    · exact List.mem_append_left _ q
    · exact List.mem_append_right _ (r2 a q)
/-- what a change of the object v gives: the new heap, the object then -/
def Chg (X : Cx) (H : Hp) (F1 : List Addr) (v : V) (H' : Hp) (o2 : O) (New : List Addr) : Prop :=
  But F1 H H' ∧ (∀ b, H b ≠ none → H' b ≠ none) ∧ ∃ F2, Ow X.prog X.w X.K H' v o2 F2 ∧ ∀ a ∈ F2, a ∈ F1 ∨ a ∈ New
theorem upd_nn {H : Hp} {a : Addr} {o : HO} : ∀ b, H b ≠ none → upd H a o b ≠ none := fun b h => by
  by_cases e : b = a
  · subst e; rw [upd_same]; simp
  · rw [upd_ne e]; exact h
/-- an own list gets other items -/
theorem lst_chg {H : Hp} {F1 F2 New : List Addr} {a : Addr} {vs vs' : List V} {os os' : List O} (h : Ow X.prog X.w X.K H (.ref a) (.lst os) F1) (e : H a = some (.lst vs))
    (h2 : Ows X.prog X.w X.K H vs' os' F2) (s2 : ∀ b ∈ F2, (b ∈ F1 ∧ b ≠ a) ∨ b ∈ New) (hn : a ∉ New) : Chg X H F1 (.ref a) (upd H a (.lst vs')) (.lst os') New := by
  cases h with
  | @lst _ ws _ F h1 h3 h4 =>
    rw [e] at h1
    cases h1
    have na : a ∉ F2 := fun z => by
      rcases s2 a z with ⟨_, q⟩ | q
      · exact q rfl
      · exact hn q
    have st : Stb H (upd H a (.lst vs')) := (upd_but (F := [a]) List.mem_cons_self).stb fun c hc => by
      rcases List.mem_singleton.mp hc with rfl
      exact .inl ⟨_, e⟩
    refine ⟨upd_but List.mem_cons_self, upd_nn, a :: F2, .lst upd_same (Ows.keep st os' h2 fun b hb => upd_ne fun z => na (z ▸ hb)) na, fun b hb => ?_⟩
    rcases List.mem_cons.mp hb with rfl | hb
    · exact .inl List.mem_cons_self
    · exact (s2 b hb).imp (·.1) id
/-- the whole, where a part of slot i has changed -/
theorem place_chg {σ : L2.St} {p : Bool} {H H2 H' : Hp} {env e2 : Ev} {F F2 New : List Addr} {i : Nat} {o o1 o2 o3 : O} {ks : List D} {v0 v : V} (a : Aft X σ p H env F H2 e2 F2) (ei : e2[i]? = some (some (.own o))) (ea : atP o ks = some o1) (ep : putP o ks o2 = some o3)
    (es : σ[i]? = some (some v0)) (pth : Pth H2 v0 ks v) (nw : ∀ a ∈ New, a ∉ F2) (nws : ∀ a ∈ New, a ∈ F ∨ H a = none)
    (ch : ∀ F1, Ow X.prog X.w X.K H2 v o1 F1 → (∀ a ∈ F1, a ∈ F2) → Chg X H2 F1 v H' o2 New) :
    ∃ F', Aft X σ false H env F H' (e2.set i (some (.own o3))) F' := by
  obtain ⟨x, G, e1, s1, sub, rp⟩ := a.ok.at ei
  obtain ⟨v0', rfl, ow⟩ := s1
  rw [es] at e1
  cases e1
  obtain ⟨v1, F1, p1, ow1, sub1, rp1⟩ := ow.path ea
  obtain rfl := p1.uniq pth
  obtain ⟨bt, nn, Fz, owz, sz⟩ := ch F1 ow1 fun b hb => sub b (sub1 b hb)
  have st : Stb H2 H' := bt.stb fun b hb => Ow.foot _ ow1 b hb
  have keepG : ∀ b ∈ F2, b ∉ F1 → H' b = H2 b := fun b hb hn => bt b hn (a.ok.foot b hb).ne
  obtain ⟨Fo, owo, so⟩ := rp1 H' o2 o3 Fz st (fun b hb hn => keepG b (sub b hb) hn) owz (fun b hb => (sz b hb).imp id fun z q => nw b z (sub b q)) ep
  obtain ⟨F', ok', sF⟩ := rp H' (some v0) (some (.own o3)) Fo st (fun b hb hn => keepG b hb fun z => hn (sub1 b z)) ⟨v0, rfl, owo⟩ (fun b hb => by
    rcases so b hb with z | ⟨z, _⟩
    · rcases sz b z with q | q
      · exact .inl (sub1 b q)
      · exact .inr (nw b q)
    · exact .inl z)
  rw [set_same es] at ok'
  refine ⟨F', ok', fun b hb => ?_, fun b hb hn => ?_, fun b hn => nn b (a.nn b hn), a.stb.trans st, fun z => nomatch z⟩
  · rcases sF b hb with z | ⟨z, _⟩
    · rcases so b z with z | ⟨z, _⟩
      · rcases sz b z with q | q
        · exact a.sub b (sub b (sub1 b q))
        · exact nws b q
      · exact a.sub b (sub b z)
    · exact a.sub b z
  · rw [bt b (fun z => ?_) (a.nn b hn)]
    · exact a.but b hb hn
    · rcases a.sub b (sub b (sub1 b z)) with q | q
      · exact hb q
      · exact hn q
theorem ow_lst {H : Hp} {a : Addr} {vs : List V} {os : List O} {F1 : List Addr} (h : Ow X.prog X.w X.K H (.ref a) (.lst os) F1) (e : H a = some (.lst vs)) : ∃ F, F1 = a :: F ∧ Ows X.prog X.w X.K H vs os F ∧ a ∉ F := by
  cases h with
  | lst h1 h2 h3 =>
    rw [e] at h1
    cases h1
    exact ⟨_, rfl, h2, h3⟩
theorem ow_lst' {H : Hp} {v : V} {os : List O} {F1 : List Addr} (h : Ow X.prog X.w X.K H v (.lst os) F1) : ∃ a vs, v = .ref a ∧ H a = some (.lst vs) := by
  cases h with
  | lst h1 h2 h3 => exact ⟨_, _, rfl, h1⟩
theorem mutName {x : Str} {m : Mth} (h : cMut x = some m) : (x = "append" ∧ m = .append) ∨ (x = "extend" ∧ m = .extend) ∨ (x = "pop" ∧ m = .pop) := by
  unfold cMut at h
  split at h
  · rename_i e; cases h; exact .inl ⟨e, rfl⟩
  split at h
  · rename_i e; cases h; exact .inr (.inl ⟨e, rfl⟩)
  split at h
  · rename_i e; cases h; exact .inr (.inr ⟨e, rfl⟩)
  · cases h
/-- the evaluator's steps of a changing method -/
structure MutAt (C : Cfg) (m : Mth) (i : Nat) (path es : CL) (env : Ev) (r : RV) (env' : Ev) (ps : List RV) (e1 : Ev) (ks : List D) (os1 : List O) (rs : List RV) (e2 : Ev) (o o1 o2 o3 : O) : Prop where
  fps : evL C path env = some (ps, e1)
  fks : keeps ps = some ks
  fpu : pureL path = true
  femp : ps.isEmpty = true ∨ pureL es = true
  fisl : placeAt e1 i ks = some (.lst os1)
  frs : evL C es e1 = some (rs, e2)
  fbrw : brwOk rs (pureL es) = true
  fown : e2[i]? = some (some (.own o))
  fat : atP o ks = some o1
  fmut : mutR m o1 rs = some (r, o2)
  fput : putP o ks o2 = some o3
  fenv : env' = e2.set i (some (.own o3))
theorem isL_some {o : Option O} (h : isL o = true) : ∃ os, o = some (.lst os) := by
  unfold isL at h
  split at h
  · exact ⟨_, rfl⟩
  · cases h
theorem mut_at {m : Mth} {i : Nat} {path es : CL} {env env' : Ev} {r : RV} (h : ev C (.mut m i path es) env = some (r, env')) : ∃ ps e1 ks os1 rs e2 o o1 o2 o3, MutAt C m i path es env r env' ps e1 ks os1 rs e2 o o1 o2 o3 := by
  simp only [ev] at h
  split at h
  · cases h
  · rename_i ps e1 hp
    obtain ⟨ks, hk, h⟩ := Option.bind_eq_some_iff.mp h
    split at h
    · rename_i hc
      rw [Bool.and_eq_true, Bool.and_eq_true, Bool.or_eq_true] at hc
      obtain ⟨os1, hl⟩ := isL_some hc.2
      split at h
      · cases h
      · rename_i rs e2 hr
        split at h
        · rename_i hb
          split at h
          · rename_i o eo
            obtain ⟨o1, a1, h⟩ := Option.bind_eq_some_iff.mp h
            obtain ⟨p, a2, h⟩ := Option.bind_eq_some_iff.mp h
            obtain ⟨o3, a3, h⟩ := Option.map_eq_some_iff.mp h
            cases h
            exact ⟨ps, e1, ks, os1, rs, e2, o, o1, p.2, o3, hp, hk, hc.1.1, hc.1.2, hl, hr, hb, eo, a1, a2, a3, rfl⟩
          · cases h
        · cases h
    · cases h
/-- the place, when the arguments have been read -/
theorem pth_then {σ : L2.St} {H1 H2 : Hp} {e1 e2 : Ev} {F1 F2 : List Addr} {i : Nat} {ks : List D} {o1 : O} {v0 v : V} {p : Bool} {ps : List RV} (ok : EnvOk X.prog X.w X.K H1 σ e1 F1) (a : Aft X σ p H1 e1 F1 H2 e2 F2) (hk : keeps ps = some ks) (he : ps.isEmpty = true ∨ p = true)
    (hp : placeAt e1 i ks = some o1) (es : σ[i]? = some (some v0)) (pth : Pth H1 v0 ks v) : Pth H2 v0 ks v := by
  rcases he with he | he
  · cases ps with
    | nil => cases hk; cases pth; exact .nil
    | cons _ _ => cases he
  · obtain ⟨o, eo, ap⟩ := place_some hp
    obtain ⟨x, G, e3, s1, sub, _⟩ := ok.at eo
    obtain ⟨v', rfl, ow⟩ := s1
    rw [es] at e3
    cases e3
    exact Pth.keep ow (fun b hb => (a.pur he).2.2 b (sub b hb)) ap pth
/-- the list at the place, its own parts -/
theorem place_lst {σ : L2.St} {H : Hp} {e : Ev} {F : List Addr} {i : Nat} {o : O} {ks : List D} {os : List O} {v0 v : V} (ok : EnvOk X.prog X.w X.K H σ e F) (eo : e[i]? = some (some (.own o))) (ap : atP o ks = some (.lst os)) (es : σ[i]? = some (some v0)) (pth : Pth H v0 ks v) :
    ∃ a vs, v = .ref a ∧ H a = some (.lst vs) ∧ a ∈ F ∧ ∃ G, Ows X.prog X.w X.K H vs os G := by
  obtain ⟨x, G, e3, s1, sub, _⟩ := ok.at eo
  obtain ⟨v', rfl, ow⟩ := s1
  rw [es] at e3
  cases e3
  obtain ⟨v1, F1, p1, ow1, sub1, _⟩ := ow.path ap
  obtain rfl := p1.uniq pth
  obtain ⟨a, vs, rfl, h⟩ := ow_lst' ow1
  obtain ⟨G', rfl, h2, _⟩ := ow_lst ow1 h
  exact ⟨a, vs, rfl, h, sub a (sub1 a List.mem_cons_self), G', h2⟩
end
end EV

set_option Elab.async false
set_option linter.all false
set_option maxRecDepth 100000
set_option maxHeartbeats 1000000
/-! EV19: append, extend, pop; o[k] = e (own work, over the hand layer's rules). -/
namespace EV
open PySem PySem.Spec PyProof.Rows L2
section
variable {X : Cx} {C : Cfg} {pos : Pos}
theorem list_ty {pins : List (Addr × Obj)} {σ' : L2.St} {H : Hp} {s : Shared} {a : Addr} {vs : List V} {v : Value} (e : H a = some (.lst vs)) (I : Inv X pins σ' H s) (rv : RelV (.ref a) v) :
    s.TypeIs v "list" ∧ ∀ b, v = .ref b → ∃ ob, s.heap.get? b = some ob ∧ ob.dict = none := by
  cases rv
  exact (lr_obj I (.inl ⟨rfl, e⟩ : LR false X.K H a vs)).1
/-- what the method of a list does, its arguments read raw -/
theorem mut_run {m : Mth} {i : Nat} {path es : CL} {σ : L2.St} {H : Hp} {env : Ev} {F : List Addr} {r : RV} {env' : Ev} {ps : List RV} {e1 : Ev} {ks : List D} {os1 : List O} {rs : List RV} {e2 : Ev} {o o1 o2 o3 : O} {Q : VK} {H1 H2 : Hp} {F1 F2 G2 : List Addr} {v0 v : V} {xs : List V}
    (M : MutAt C m i path es env r env' ps e1 ks os1 rs e2 o o1 o2 o3) (q : ∀ b H' F' G, Aft X σ false H env F H' env' F' → RvO X H' F' b r G → Apart H F F' G → Q b H')
    (a1 : Aft X σ true H env F H1 e1 F1) (ev0 : σ[i]? = some (some v0)) (pth : Pth H1 v0 ks v) (a2 : Aft X σ (pureL es) H1 e1 F1 H2 e2 F2) (rv : RvsO X H2 F2 xs rs G2) (ap : Apart H1 F1 F2 G2) :
    ∀ (pins : List (Addr × Obj)) (σ' : L2.St) (s : Shared) (u : Value) (us : List Value), Inv X pins σ' H2 s → RelV v u → Vals xs us →
      wpAny (model X.prog X.w) X.A (call (.builtin (match m with | .append => "list.append" | .extend => "list.extend" | _ => "list.pop")) (u :: us)) (EP X pins σ' Q) X.xe s := by
  intro pins σ' s u us I ru rus
  have a12 := a1.trans a2 (r := false) fun z => nomatch z
  have pth2 := pth_then a1.ok a2 M.fks M.femp M.fisl ev0 pth
  have apB := ap.back a1
  obtain ⟨o1', ho1⟩ : ∃ x, o1 = x := ⟨o1, rfl⟩
  match m, o1, rs, M.fmut, M.fat, rv with
  | .append, .lst os, [.val d], hm, hat, rv =>
    have hm : (if os.length < sizeLine then some (RV.val .none, O.lst (os ++ [.imm d])) else none) = some (r, o2) := hm
    split at hm
    · rename_i hz
      cases hm
      cases rv with
      | cons h1 h2 _ =>
        cases h2
        obtain ⟨rfl, h1⟩ := h1
        obtain ⟨a, vs, rfl, e, hF, G, hws⟩ := place_lst a2.ok M.fown hat ev0 pth2
        refine mt_append pins s σ' H2 _ _ u us Q I ru rus ⟨a, vs, _, rfl, rfl, e, by rw [hws.length]; exact hz, ?_⟩
        obtain ⟨F', af⟩ := place_chg (New := []) a12 M.fown hat M.fput ev0 pth2 (fun b h => by simp at h) (fun b h => by simp at h) fun Fx ow sub => by
          obtain ⟨Fy, rfl, hy, ny⟩ := ow_lst ow e
          exact lst_chg ow e (hy.imms (.cons h1 .nil)) (fun b hb => .inl ⟨List.mem_cons_of_mem _ hb, fun z => ny (z ▸ hb)⟩) (by simp)
        rw [← M.fenv] at af
        exact q .non _ F' [] af ⟨rfl, .non⟩ Apart.nil
    · cases hm
  | .append, .lst os, [.own p], hm, hat, rv =>
    have hm : (if os.length < sizeLine then some (RV.val .none, O.lst (os ++ [p])) else none) = some (r, o2) := hm
    split at hm
    · rename_i hz
      cases hm
      cases rv with
      | @cons y _ _ _ Gp _ h1 h2 _ =>
        cases h2
        have h1 : Ow X.prog X.w X.K H2 y p Gp := h1
        obtain ⟨a, vs, rfl, e, hF, G, hws⟩ := place_lst a2.ok M.fown hat ev0 pth2
        refine mt_append pins s σ' H2 _ _ u us Q I ru rus ⟨a, vs, _, rfl, rfl, e, by rw [hws.length]; exact hz, ?_⟩
        have offF : ∀ b ∈ Gp, b ∉ F2 := fun b hb => ap.off b (List.mem_append_left _ hb)
        obtain ⟨F', af⟩ := place_chg (New := Gp) a12 M.fown hat M.fput ev0 pth2 offF (fun b h => apB.sub b (List.mem_append_left _ h)) fun Fx ow sub => by
          obtain ⟨Fy, rfl, hy, ny⟩ := ow_lst ow e
          obtain ⟨Fn, hn, sn⟩ := Ows.snoc h1 hy fun b hb z => offF b z (sub b (List.mem_cons_of_mem _ hb))
          exact lst_chg ow e hn (fun b hb => ((sn b).mp hb).imp (fun z => ⟨List.mem_cons_of_mem _ z, fun w => ny (w ▸ z)⟩) id) fun z => offF a z hF
        rw [← M.fenv] at af
        exact q .non _ F' [] af ⟨rfl, .non⟩ Apart.nil
    · cases hm
  | .extend, .lst os, [ry], hm, hat, rv =>
    have hm : (match ry.parts with
      | some (.list ds) => if os.length + ds.length ≤ sizeLine then some (RV.val .none, O.lst (os ++ ds.map .imm)) else none
      | _ => none) = some (r, o2) := hm
    split at hm
    · rename_i ds hp
      split at hm
      · rename_i hz
        cases hm
        cases rv with
        | @cons y _ _ _ Gp _ h1 h2 _ =>
          cases h2
          -- the argument is handed over for good
          obtain ⟨H3, I3, a3, o3', k3⟩ := h1.frz I a12 ⟨fun b hb => ap.off b (List.mem_append_left _ hb), fun b hb => apB.sub b (List.mem_append_left _ hb)⟩
          obtain ⟨b, zs, rfl, hb, hzs⟩ := o3'.px hp
          have pth3 : Pth H3 v0 ks v := by
            obtain ⟨x, Gs, es, s1, sub, _⟩ := a2.ok.at M.fown
            obtain ⟨v', rfl, ow⟩ := s1
            rw [ev0] at es
            cases es
            exact Pth.keep ow (fun c hc => k3 c (sub c hc)) hat pth2
          obtain ⟨a, vs, rfl, e, hF, G, hws⟩ := place_lst a3.ok M.fown hat ev0 pth3
          refine mt_extendA pins s σ' H3 _ _ u us Q I3 ru rus ⟨a, b, vs, zs, rfl, rfl, e, hb, by rw [hws.length, hzs.length]; exact hz, ?_⟩
          obtain ⟨F', af⟩ := place_chg (New := []) a3 M.fown hat M.fput ev0 pth3 (fun b h => by simp at h) (fun b h => by simp at h) fun Fx ow sub => by
            obtain ⟨Fy, rfl, hy, ny⟩ := ow_lst ow e
            exact lst_chg ow e (hy.imms hzs) (fun b hb => .inl ⟨List.mem_cons_of_mem _ hb, fun z => ny (z ▸ hb)⟩) (by simp)
          rw [← M.fenv] at af
          exact q .non _ F' [] af ⟨rfl, .non⟩ Apart.nil
      · cases hm
    · cases hm
  | .pop, .lst os, [], hm, hat, rv =>
    have hm : (match os.getLast? with
      | some (.imm d) => some (RV.val d, O.lst os.dropLast)
      | _ => none) = some (r, o2) := hm
    split at hm
    · rename_i d hl
      cases hm
      cases rv
      obtain ⟨a, vs, rfl, e, hF, G, hws⟩ := place_lst a2.ok M.fown hat ev0 pth2
      obtain ⟨z, ez, rl, G', hG, sG⟩ := hws.last hl
      refine mt_pop pins s σ' H2 _ _ u us Q I ru rus ⟨a, vs, z, rfl, rfl, e, ez, ?_⟩
      have st : Stb H2 (upd H2 a (.lst vs.dropLast)) := (upd_but (F := [a]) List.mem_cons_self).stb fun c hc => by
        rcases List.mem_singleton.mp hc with rfl
        exact .inl ⟨_, e⟩
      obtain ⟨F', af⟩ := place_chg (New := []) a12 M.fown hat M.fput ev0 pth2 (fun b h => by simp at h) (fun b h => by simp at h) fun Fx ow sub => by
        obtain ⟨Fy, rfl, hy, ny⟩ := ow_lst ow e
        obtain ⟨_, _, _, G2, hG2, sG2⟩ := hy.last hl
        exact lst_chg ow e hG2 (fun b hb => .inl ⟨List.mem_cons_of_mem _ (sG2 b hb), fun z => ny (z ▸ sG2 b hb)⟩) (by simp)
      rw [← M.fenv] at af
      exact q z _ F' [] af ⟨rfl, Rl.stb st d rl⟩ Apart.nil
    · cases hm
theorem evMut0 {o : Expr} {m : Mth} {x : Str} {i : Nat} {path : CL} {apos : Pos} (hm : cMut x = some m) (hb : baseOk o = true) (hline : (apos.endLine == pos.line) = true) (ho : PE X o (TPl X C i path)) :
    PE X (.Call (.Attribute o x apos) [] [] pos) (TEv X C (.mut m i path .nil)) := by
  refine (peMth0 hb hline ho).of fun σ H Q ⟨env, F, r, env', hok, he, q⟩ => ?_
  obtain ⟨ps, e1, ks, os1, rs, e2, o, o1, o2, o3, M⟩ := mut_at he
  refine ⟨env, F, ps, e1, ks, _, hok, M.fps, M.fpu, M.fks, M.fisl, fun v H1 F1 a1 ⟨v0, ev0, pth⟩ => ?_⟩
  obtain ⟨oo, eo, ao⟩ := place_some M.fisl
  obtain ⟨a, vs, rfl, e, _⟩ := place_lst a1.ok eo ao ev0 pth
  have hr : some ([], e1) = some (rs, e2) := M.frs
  cases hr
  rcases mutName hm with ⟨rfl, rfl⟩ | ⟨rfl, rfl⟩ | ⟨rfl, rfl⟩
  · have z := M.fmut
    cases o1 <;> cases z
  · have z := M.fmut
    cases o1 <;> cases z
  · exact ⟨"list", "list.pop", PySem.F.plainAttrs_list, PySem.F.slot_list_pop, PySem.F.type_list_pop, fun pins σ' s u I ru => list_ty e I ru,
      fun pins σ' s u us I ru rus => mut_run M q a1 ev0 pth (Aft.refl a1.ok) .nil Apart.nil pins σ' s u us I ru rus⟩
theorem evMut {o e : Expr} {m : Mth} {x : Str} {i : Nat} {path es : CL} {args : List Expr} {apos : Pos} (hm : cMut x = some m) (hb : baseOk o = true) (hline : (apos.endLine == pos.line) = true) (hs : (e :: args).all notStar = true) (hl : (e :: args).length < 29)
    (ho : PE X o (TPl X C i path)) (ha : PA X (e :: args) (TLr X C es)) : PE X (.Call (.Attribute o x apos) (e :: args) [] pos) (TEv X C (.mut m i path es)) := by
  refine (peMth hb hline hs hl ho ha).of fun σ H Q ⟨env, F, r, env', hok, he, q⟩ => ?_
  obtain ⟨ps, e1, ks, os1, rs, e2, o, o1, o2, o3, M⟩ := mut_at he
  refine ⟨env, F, ps, e1, ks, _, hok, M.fps, M.fpu, M.fks, M.fisl, fun v H1 F1 a1 ⟨v0, ev0, pth⟩ => ?_⟩
  obtain ⟨oo, eo, ao⟩ := place_some M.fisl
  obtain ⟨a, vs, rfl, e, _⟩ := place_lst a1.ok eo ao ev0 pth
  have args : ∀ R : List V → Hp → Prop, (∀ xs H2 F2 G2, Aft X σ (pureL es) H1 e1 F1 H2 e2 F2 → RvsO X H2 F2 xs rs G2 → Apart H1 F1 F2 G2 → R xs H2) → TLr X C es σ H1 R := fun R h =>
    ⟨e1, F1, rs, e2, a1.ok, tlo_of M.frs M.fbrw, h⟩
  rcases mutName hm with ⟨rfl, rfl⟩ | ⟨rfl, rfl⟩ | ⟨rfl, rfl⟩
  · exact ⟨"list", "list.append", PySem.F.plainAttrs_list, PySem.F.slot_list_append, PySem.F.type_list_append, fun pins σ' s u I ru => list_ty e I ru,
      args _ fun xs H2 F2 G2 a2 rv ap => mut_run M q a1 ev0 pth a2 rv ap⟩
  · exact ⟨"list", "list.extend", PySem.F.plainAttrs_list, PySem.F.slot_list_extend, PySem.F.type_list_extend, fun pins σ' s u I ru => list_ty e I ru,
      args _ fun xs H2 F2 G2 a2 rv ap => mut_run M q a1 ev0 pth a2 rv ap⟩
  · exact ⟨"list", "list.pop", PySem.F.plainAttrs_list, PySem.F.slot_list_pop, PySem.F.type_list_pop, fun pins σ' s u I ru => list_ty e I ru,
      args _ fun xs H2 F2 G2 a2 rv ap => mut_run M q a1 ev0 pth a2 rv ap⟩
end
end EV

set_option Elab.async false
set_option linter.all false
set_option maxRecDepth 100000
set_option maxHeartbeats 1000000
/-! EV20: x[::-1]; displays of dicts (own work, over the hand layer's rules). -/
namespace EV
open PySem PySem.Spec PyProof.Rows L2
section
variable {prog : Program} {w : World} {A : Around} {E : Value → Shared → Prop} {s : Shared}
/-- the whole of a sequence from behind: where it begins, its step, how many -/
theorem applied_rev {sl : Addr} {vl vu vs : Value} {n : Nat} {Q : Int × Int × Nat → Shared → Prop} (hs : s.heap.IsSliceOf sl vl vu vs) (pl : IsPart vl none) (pu : IsPart vu none) (ps : IsPart vs (some (-1)))
    (h : Q ((n : Int) - 1, -1, n) s) : wpAny (model prog w) A (Builtin.Slice.sliceApplied (.ref sl) (pure (n : Int))) Q E s := by
  cases pl
  cases pu
  cases ps with
  | int _ t =>
  obtain ⟨ob, e, _, d⟩ := id hs
  unfold Builtin.Slice.sliceApplied Builtin.Slice.sliceFields
  refine wpAny_bind (wpAny_bind (wpAny_field e d (x := .none) rfl (wpAny_bind (wpAny_field e d (x := .none) rfl (wpAny_bind (wpAny_field e d (x := .int (-1) t) rfl (wpAny_pure ?_)))))))
  refine wpAny_bind (slicePart_int ?_)
  show wpAny _ _ (if ((-1 : Int) == 0) = true then _ else _) _ _ s
  rw [if_neg (by decide)]
  refine wpAny_bind (slicePart_none (wpAny_bind (slicePart_none (wpAny_bind (wpAny_pure ?_)))))
  have e2 : Builtin.Slice.slicePlaces ((n : Int) - 1) (-1) (-1) = n := by
    unfold Builtin.Slice.slicePlaces
    rw [if_neg (by decide)]
    by_cases hn : n = 0
    · subst hn; rfl
    · rw [if_pos (by omega)]
      have : -(-1 : Int) = 1 := by decide
      rw [this, Int.ediv_one]
      omega
  show wpAny _ _ (pure ((n : Int) - 1, (-1 : Int), Builtin.Slice.slicePlaces ((n : Int) - 1) (-1) (-1))) _ _ s
  rw [e2]
  exact wpAny_pure h
theorem pick_rev (xs : Array Value) : ((List.range xs.size).filterMap fun (m : Nat) => xs[((xs.size : Int) - 1 + (m : Int) * (-1)).toNat]?).toArray = xs.toList.reverse.toArray := by
  congr 1
  apply List.ext_getElem?
  intro j
  have all : ∀ (k : Nat), k ≤ xs.size → ((List.range k).filterMap fun (m : Nat) => xs[((xs.size : Int) - 1 + (m : Int) * (-1)).toNat]?) = xs.toList.reverse.take k := by
    intro k
    induction k with
    | zero => intro _; rfl
    | succ k ih =>
      intro hk
      rw [List.range_succ, List.filterMap_append, ih (by omega)]
      have e1 : ((xs.size : Int) - 1 + (k : Int) * (-1)).toNat = xs.size - 1 - k := by omega
      have e2 : xs[((xs.size : Int) - 1 + (k : Int) * (-1)).toNat]? = some xs[xs.size - 1 - k] := by rw [e1]; exact Array.getElem?_eq_getElem (by omega)
      have e3 : xs.toList.reverse[k]? = some xs[xs.size - 1 - k] := by
        rw [List.getElem?_reverse (by simp; omega), Array.length_toList, Array.getElem?_toList]
        exact Array.getElem?_eq_getElem (by omega)
      rw [List.take_succ, e3, List.filterMap_cons, e2]
      rfl
  rw [all xs.size (Nat.le_refl _), List.take_of_length_le (by simp)]
theorem tup_rev {t sl : Addr} {items : Array Value} {vl vu vs : Value} {Q : Value → Shared → Prop} (ht : IsTup s.heap t items) (hs : s.heap.IsSliceOf sl vl vu vs) (pl : IsPart vl none) (pu : IsPart vu none) (ps : IsPart vs (some (-1)))
    (h : Q (.ref s.heap.objs.size) { s with heap := s.heap.push { cls := .type "tuple", data := .seq items.toList.reverse.toArray } }) (hz : items.size ≤ sizeLine) : wpAny (model prog w) A (getItem (.ref t) (.ref sl)) Q E s := by
  have fits : sizeOk (.seq items.toList.reverse.toArray) := by
    show items.toList.reverse.toArray.size ≤ sizeLine
    rw [List.size_toArray, List.length_reverse, Array.length_toList]
    exact hz
  obtain ⟨ob, eb, cb, db⟩ := id hs
  have tS : s.TypeIs (.ref sl) "slice" := ⟨ob, eb, cb⟩
  unfold getItem
  try with_reducible refine wpAny_holding ?_
  first | refine wpAny_bind (wpAny_pure ?_) | skip
  refine wpAny_bind (wpAny_sequenceKey ht.typeIs (by decide) ?_)
  refine wpAny_bind (wpAny_callSpecial?_slot (name := Str.ofString "__getitem__") ht.typeIs PyProof.Rows.slot_tuple_getitem
    (wpAny_call_entry PyProof.Rows.slot_tuple_getitem ht.typeIs entry_tuple_getitem ?_ (args_tuple_getitem _ _)))
  show wpAny _ _ (Builtin.Tuple.tupleItemsOf (.ref t) >>= _) _ _ s
  refine wpAny_bind (tupleItemsOf_ ht (wpAny_bind (wpAny_typeOf tS ?_)))
  rw [if_pos (by decide)]
  refine wpAny_bind (applied_rev hs pl pu ps ?_)
  show wpAny _ _ (if (((items.size : Int) - 1) == 0 && (-1 : Int) == 1 && items.size == items.size) = true then _ else _) _ _ s
  rw [if_neg (by simp), pick_rev]
  first
    | exact wpAny_bind (m := Builtin.Tuple.tupleExact _) (wpAny_newObj_type (wpAny_pure ⟨_, rfl, wpAny_pure h⟩) fits)
    | exact wpAny_bind (m := Builtin.Tuple.tupleExact _) (wpAny_newObj_type (wpAny_bind (wpAny_pure (wpAny_pure ⟨_, rfl, wpAny_pure h⟩))) fits)
    | exact wpAny_bind (wpAny_bind (m := Builtin.Tuple.tupleExact _) (wpAny_newObj_type (wpAny_pure (wpAny_pure ⟨_, rfl, wpAny_pure h⟩)) fits))
    | exact wpAny_bind (wpAny_bind (m := Builtin.Tuple.tupleExact _) (wpAny_newObj_type (wpAny_pure ⟨_, rfl, wpAny_pure h⟩) fits))
end
section
variable {X : Cx} {C : Cfg} {pos : Pos}
theorem minus_one {e : Expr} (h : isMinusOne e = true) : ∃ k p1 p2, e = .UnaryOp .USub (.Constant (.int 1) k p1) p2 := by
  unfold isMinusOne at h
  split at h
  · exact ⟨_, _, _, rfl⟩
  · cases h
theorem rev_some {d : D} {r : RV} (e : revR d = some r) : (∃ ds, d = .list ds ∧ r = .own (ofL ds.reverse)) ∨ ∃ ds, d = .tuple ds ∧ r = .val (.tuple ds.reverse) := by
  unfold revR at e
  split at e
  · exact .inl ⟨_, rfl, (Option.some.inj e).symm⟩
  · exact .inr ⟨_, rfl, (Option.some.inj e).symm⟩
  · cases e
theorem evRev {a st : Expr} {a' : CE} {p3 : Pos} (h1 : isMinusOne st = true) (ha : PE X a (TEv X C a')) : PE X (.Subscript a (.Slice none none (some st) p3) pos) (TEv X C (.rev a')) := by
  obtain ⟨k, p1, p2, rfl⟩ := minus_one h1
  refine ⟨fun pins s σ H Q I ⟨env, F, r, env', ho, he, q⟩ => ?_⟩
  simp only [ev] at he
  split at he
  · cases he
  · rename_i ra e1 ea
    obtain ⟨r', er, ez⟩ := Option.map_eq_some_iff.mp he
    cases ez
    obtain ⟨d, ed, er⟩ := Option.bind_eq_some_iff.mp er
    refine Subscript_ (thn (ha.op.run pins s σ H (fun v H' => ∃ F', Aft X σ (pureE a') H env F H' env' F' ∧ OpOk X H' F' v ra) I ⟨env, F, ra, env', ho, ea, fun v H' F' G a b _ => ⟨F', a, b.2⟩⟩) fun u s1 ⟨v, H1, I1, rv, F1, a1, o1⟩ => ?_)
    have px := o1.px ed
    have fin : ∀ x H', Nw X H1 H' x r → Q x H' := fun x H' n => by
      obtain ⟨G, a2, rv, ap⟩ := nw_fin a1 n
      exact q x H' F1 G a2 rv ap
    have part : PO X (some (.UnaryOp .USub (.Constant (.int 1) k p1) p2)) (tPart (tUn (rU fun i => .int (-i)) (tC (.int 1)))) := po_some (pe_un un_neg pe_int)
    refine wpAny_Slice (thn (po_none.run pins s1 σ H1 (fun o H2 => o = none ∧ H2 = H1) I1 ⟨rfl, rfl⟩) fun vl s2 ⟨l, H2, I2, pl, z1, z2⟩ => ?_)
    subst z1 z2
    refine thn (po_none.run pins s2 σ H2 (fun o H3 => o = none ∧ H3 = H2) I2 ⟨rfl, rfl⟩) fun vu s3 ⟨h, H3, I3, pu, z1, z2⟩ => ?_
    subst z1 z2
    refine thn (part.run pins s3 σ H3 (fun o H4 => o = some (-1) ∧ H4 = H3) I3 ⟨1, rfl, -1, rfl, rfl, rfl⟩) fun vs s4 ⟨o, H4, I4, ps, z1, z2⟩ => ?_
    subst z1 z2
    have I5 : Inv X pins σ H4 { s4 with heap := s4.heap.push { cls := .type "slice", data := .fields #[vl, vu, vs] } } := I4.kept (t' := s4.toks) fun b ob q => Heap.get?_push_of_some _ q
    show wpAny (model X.prog X.w) X.A (subscriptTail a (.Slice none none (some (.UnaryOp .USub (.Constant (.int 1) k p1) p2)) p3) u (.ref s4.heap.objs.size)) (EP X pins σ Q) X.xe { s4 with heap := s4.heap.push { cls := .type "slice", data := .fields #[vl, vu, vs] } }
    rcases rev_some er with ⟨ds, rfl, rfl⟩ | ⟨ds, rfl, rfl⟩
    · obtain ⟨b, xs, rfl, hl, hds⟩ := px
      cases rv
      obtain ⟨its, r, ht, hz⟩ := I5.list hl.sq
      have hlen := r.length
      refine tail_any (ops := [.ref b, .ref s4.heap.objs.size]) ht.isList.typeIs (PySem.slot_list_getitem.lookup) ?_ (by with_unfolding_all rfl)
      refine wpAny_getItem_list_slice ht.isList (Heap.IsSliceOf.new _ vl vu vs) pl pu ps (by decide) ?_ (by rw [List.size_toArray]; omega)
      rw [PySem.W.krv_pick]
      exact ⟨.ref _, _, I5.lnew (t' := s4.toks) r.reverse (by rw [List.length_reverse]; exact hz), rfl, fin _ _ (nw_list I5.fresh hds.reverse)⟩
    · have px : Rs X H4 v (.tuple ds) := px
      cases px with
      | @tup b xs _ hl hds =>
        cases rv
        obtain ⟨its, r, ht, hz⟩ := I5.tuple hl.sq
        have hlen := r.length
        refine tail_any (ops := [.ref b, .ref s4.heap.objs.size]) ht.typeIs (PyProof.Rows.slot_tuple_getitem.lookup) ?_ (by with_unfolding_all rfl)
        refine tup_rev ht (Heap.IsSliceOf.new _ vl vu vs) pl pu ps ?_ (by rw [List.size_toArray]; omega)
        exact (new_tup hds.reverse fin).fin (t := s4.toks) I5 r.reverse (by rw [List.length_reverse]; exact hz)
end
end EV

set_option Elab.async false
set_option linter.all false
set_option maxRecDepth 100000
set_option maxHeartbeats 1000000
/-! EV21: displays of dicts; o[k] = e (own work, over the hand layer's rules). -/
namespace EV
open PySem PySem.Spec PyProof.Rows L2
section
variable {X : Cx} {C : Cfg} {pos : Pos}
theorem Owk.snoc {H : Hp} {q : Key} {v : V} {o : O} {G : List Addr} (hv : Ow X.prog X.w X.K H v o G) : ∀ {kvs : List (Key × V)} {kos : List (Key × O)} {F : List Addr}, Owk X.prog X.w X.K H kvs kos F → (∀ a ∈ F, a ∉ G) → ∃ F', Owk X.prog X.w X.K H (kvs ++ [(q, v)]) (kos ++ [(q, o)]) F' ∧ ∀ a ∈ F', a ∈ F ∨ a ∈ G
  | _, _, _, .nil, _ => ⟨G ++ [], .cons hv .nil (fun a _ h => by simp at h), fun a h => .inr (by simpa using h)⟩
  | _, _, _, @Owk.cons _ _ _ _ k v1 o1 kvs kos F1 F2 h1 h2 h3, d => by
    obtain ⟨F', r1, r2⟩ := Owk.snoc hv h2 fun a ha => d a (List.mem_append_right _ ha)
    refine ⟨F1 ++ F', .cons h1 r1 fun a ha hb => ?_, fun a ha => ?_⟩
    · rcases r2 a hb with z | z
      · exact h3 a ha z
      · exact d a (List.mem_append_left _ ha) z
    · rcases List.mem_append.mp ha with z | z
      · exact .inl (List.mem_append_left _ z)
      · exact (r2 a z).imp (List.mem_append_right _) id
theorem find_none {q : Key} : ∀ {kos : List (Key × O)}, kos.any (fun p => decide (p.1 = q)) = false → q ∉ kos.map (·.1)
  | kos, h => fun hm => by
    obtain ⟨p, hp, e⟩ := List.mem_map.mp hm
    have := (List.any_eq_true (p := fun p : Key × O => decide (p.1 = q))).mpr ⟨p, hp, decide_eq_true e⟩
    rw [h] at this
    cases this
theorem find_some {q : Key} {kos : List (Key × O)} (h : kos.any (fun p => decide (p.1 = q)) = true) : ∃ o, findO kos q = some o := by
  unfold findO
  cases e : kos.find? fun p => decide (p.1 = q) with
  | some p => exact ⟨p.2, rfl⟩
  | none =>
    obtain ⟨p, hp, hq⟩ := List.any_eq_true.mp h
    have := List.find?_eq_none.mp e p hp
    exact absurd hq this
/-- a pair is put -/
theorem Owk.put {H : Hp} {q : Key} {v : V} {o : O} {G F : List Addr} {kvs : List (Key × V)} {kos : List (Key × O)} (h : Owk X.prog X.w X.K H kvs kos F) (nd : (kos.map (·.1)).Nodup) (hv : Ow X.prog X.w X.K H v o G) (d : ∀ a ∈ F, a ∉ G) :
    ∃ F', Owk X.prog X.w X.K H (putK kvs q v) (putO kos q o) F' ∧ ((putO kos q o).map (·.1)).Nodup ∧ ∀ a ∈ F', a ∈ F ∨ a ∈ G := by
  have keys := h.keys
  have anyE : (kvs.any fun kv => decide (kv.1 = q)) = kos.any fun p => decide (p.1 = q) := by
    have e1 : (kvs.any fun kv => decide (kv.1 = q)) = (kvs.map (·.1)).any fun k => decide (k = q) := by rw [List.any_map]; rfl
    have e2 : (kos.any fun p => decide (p.1 = q)) = (kos.map (·.1)).any fun k => decide (k = q) := by rw [List.any_map]; rfl
    rw [e1, e2, keys]
  unfold putK putO
  rw [anyE]
  by_cases e : (kos.any fun p => decide (p.1 = q)) = true
  · rw [if_pos e, if_pos e]
    obtain ⟨o1, ho⟩ := find_some e
    obtain ⟨v1, F1, e1, ow1, sub, rp⟩ := h.at nd ho
    obtain ⟨F', r1, r2⟩ := rp H v o G (Stb.refl _) (fun _ _ _ => rfl) hv fun a ha => .inr fun z => d a z ha
    refine ⟨F', r1, by rw [keys_repl]; exact nd, fun a ha => ?_⟩
    rcases r2 a ha with z | ⟨z, _⟩
    · exact .inr z
    · exact .inl z
  · have e' : (kos.any fun p => decide (p.1 = q)) = false := Bool.eq_false_iff.mpr e
    rw [if_neg e, if_neg e]
    obtain ⟨F', r1, r2⟩ := Owk.snoc (q := q) hv h d
    refine ⟨F', r1, ?_, r2⟩
    rw [List.map_append, List.nodup_append]
    refine ⟨nd, by simp, fun a ha b hb => ?_⟩
    have hb : b = q := by simpa using hb
    subst hb
    exact fun z => find_none e' (z ▸ ha)
theorem Owk.fold {H : Hp} : ∀ {more : List (Key × V)} {mos : List (Key × O)} {G : List Addr} {kvs : List (Key × V)} {kos : List (Key × O)} {F : List Addr}, Owk X.prog X.w X.K H more mos G → Owk X.prog X.w X.K H kvs kos F → (kos.map (·.1)).Nodup → (∀ a ∈ F, a ∉ G) →
    ∃ F', Owk X.prog X.w X.K H (mergeK kvs more) (mos.foldl (fun acc p => putO acc p.1 p.2) kos) F' ∧ ((mos.foldl (fun acc p => putO acc p.1 p.2) kos).map (·.1)).Nodup ∧ ∀ a ∈ F', a ∈ F ∨ a ∈ G
  | _, _, _, kvs, kos, F, .nil, h, nd, _ => ⟨F, h, nd, fun a ha => .inl ha⟩
  | _, _, _, kvs, kos, F, @Owk.cons _ _ _ _ k v o more mos G1 G2 h1 h2 h3, h, nd, d => by
    obtain ⟨F1, r1, r2, r3⟩ := h.put (q := k) nd h1 fun a ha hb => d a ha (List.mem_append_left _ hb)
    obtain ⟨F2, s1, s2, s3⟩ := Owk.fold h2 r1 r2 fun a ha hb => by
      rcases r3 a ha with z | z
      · exact d a z (List.mem_append_right _ hb)
      · exact h3 a z hb
    refine ⟨F2, s1, s2, fun a ha => ?_⟩
    rcases s3 a ha with z | z
    · exact (r3 a z).imp id (List.mem_append_left _)
    · exact .inr (List.mem_append_right _ z)
/-- the pairs of a display -/
inductive PrS (X : Cx) (C : Cfg) : List (Option Expr) → List Expr → CP → Prop
  | nil : PrS X C [] [] .nil
  | cons {k v : Expr} {k' v' : CE} {ks : List (Option Expr)} {vs : List Expr} {ps : CP} : PE X k (TEv X C k') → PE X v (TEv X C v') → PrS X C ks vs ps → PrS X C (some k :: ks) (v :: vs) (.cons k' v' ps)
theorem PrS.len : ∀ {ks : List (Option Expr)} {vs : List Expr} {ps : CP}, PrS X C ks vs ps → ks.length = vs.length ∧ ks.all (·.isSome) = true
  | _, _, _, .nil => ⟨rfl, rfl⟩
  | _, _, _, .cons _ _ t => by
    obtain ⟨h1, h2⟩ := PrS.len t
    exact ⟨by rw [List.length_cons, List.length_cons, h1], by rw [List.all_cons, h2]; rfl⟩
theorem toO_ow {H : Hp} {F : List Addr} {v : V} {r : RV} {o : O} {G : List Addr} (h : RvO X H F v r G) (e : r.toO = some o) : Ow X.prog X.w X.K H v o G ∧ r.isBrw = false := by
  match r, h, e with
  | .val d, h0, e =>
    cases e
    obtain ⟨hG, h1⟩ := h0
    subst hG
    exact ⟨.imm h1, rfl⟩
  | .own o', h, e => cases e; exact ⟨h, rfl⟩
theorem prs_pps : ∀ {ks : List (Option Expr)} {vs : List Expr} {ps : CP}, PrS X C ks vs ps → ∃ trs, PPs X pos ks vs trs ∧ ∀ {σ : L2.St} {H : Hp} {K : List (V × V) → Hp → Prop} {env : Ev} {F : List Addr} {kos : List (Key × O)} {env' : Ev},
    EnvOk X.prog X.w X.K H σ env F → evP C ps env = some (kos, env') → (∀ kvs H' F' G, Aft X σ (pureP ps) H env F H' env' F' → Owk X.prog X.w X.K H' kvs kos G → Apart H F F' G → K (kvs.map fun kv => (kV kv.1, kv.2)) H') → tPairs trs σ H K
  | _, _, _, .nil => ⟨[], pps_nil, fun {σ H K env F kos env'} ho he k => by
    have he : some ([], env) = some (kos, env') := he
    cases he
    exact k [] H F [] (Aft.refl ho) .nil Apart.nil⟩
  | _, _, _, @PrS.cons _ _ ke ve k' v' ks vs ps hk hv t => by
    obtain ⟨trs, h1, h2⟩ := prs_pps t
    refine ⟨(TOp X C k', TEv X C v') :: trs, pps_cons hk.op hv h1, fun {σ H K env F kos env'} ho he k => ?_⟩
    simp only [evP] at he
    split at he
    · cases he
    · rename_i rk e1 ek
      split at he
      · cases he
      · rename_i rv e2 ev'
        obtain ⟨q, hq, he⟩ := Option.bind_eq_some_iff.mp he
        obtain ⟨o, hoo, he⟩ := Option.bind_eq_some_iff.mp he
        obtain ⟨p, hp, he⟩ := Option.map_eq_some_iff.mp he
        cases he
        obtain ⟨dk, hk1, hk2⟩ := Option.bind_eq_some_iff.mp hq
        refine ⟨env, F, rk, e1, ho, ek, fun x H1 F1 G1 a1 o1 _ => ⟨e1, F1, rv, e2, a1.ok, ev', fun y H2 F2 G2 a2 o2 p2 => ?_⟩⟩
        obtain rfl := key_rel (Rl.weak _ (o1.2.kept hk1)) hk2
        refine h2 a2.ok hp fun kvs H3 F3 G3 a3 o3 p3 => ?_
        obtain ⟨_, nb⟩ := toO_ow o2 hoo
        obtain ⟨o2', off⟩ := o2.keep a3 p2.off fun z => by rw [nb] at z; cases z
        obtain ⟨ow, _⟩ := toO_ow o2' hoo
        have a12 := a1.trans a2 (r := pureE k' && pureE v') fun z => and2 z
        refine k ((q, y) :: kvs) H3 F3 (G2 ++ G3) (a12.trans a3 fun z => and2 z) (.cons ow o3 fun a ha hb => ?_) ⟨fun a ha => ?_, fun a ha => ?_⟩
        · rcases p3.sub a hb with z | z
          · exact p2.off a ha z
          · exact (o2.foot a ha).ne z
        · rcases List.mem_append.mp ha with z | z
          · exact off a z
          · exact p3.off a z
        · rcases List.mem_append.mp ha with z | z
          · exact (p2.back a1).sub a z
          · exact (p3.back a12).sub a z
theorem evP_len {C : Cfg} : ∀ {ps : CP} {ks : List (Option Expr)} {vs : List Expr} {env env' : Ev} {kos : List (Key × O)}, PrS X C ks vs ps → evP C ps env = some (kos, env') → kos.length = ks.length
  | _, _, _, env, env', kos, .nil, h => by
    have h : some ([], env) = some (kos, env') := h
    cases h; rfl
  | _, _, _, env, env', kos, .cons _ _ t, h => by
    simp only [evP] at h
    split at h
    · cases h
    · split at h
      · cases h
      · obtain ⟨_, _, h⟩ := Option.bind_eq_some_iff.mp h
        obtain ⟨_, _, h⟩ := Option.bind_eq_some_iff.mp h
        obtain ⟨p, hp, h⟩ := Option.map_eq_some_iff.mp h
        cases h
        rw [List.length_cons, List.length_cons]
        have := evP_len t (show evP C _ _ = some (p.1, p.2) from hp)
        omega
theorem evDct {ks : List (Option Expr)} {vs : List Expr} {ps : CP} (h : PrS X C ks vs ps) (h0 : ks ≠ []) (h15 : ks.length ≤ 15) : PE X (.Dict ks vs pos) (TEv X C (.dct ps)) := by
  obtain ⟨trs, h1, h2⟩ := prs_pps (pos := pos) h
  obtain ⟨l1, l2⟩ := h.len
  refine (pe_disp h1 l2 l1 h0 h15).of fun σ H Q ⟨env, F, r, env', ho, he, q⟩ => ?_
  simp only [ev] at he
  split at he
  · cases he
  · rename_i kos e1 ep
    split at he
    · rename_i hz
      cases he
      intro p hp
      have sm : Same H (upd H p (.dK [])) := same_new hp
      have a0 : Aft X σ (pureP ps) H env F (upd H p (.dK [])) env F := (Aft.refl ho).more sm
      refine h2 a0.ok ep fun kvs H2 F2 G a2 ow ap => ?_
      have pF : p ∉ F := fun z => (ho.foot p z).ne hp
      have p1 : upd H p (.dK []) p ≠ none := by rw [upd_same]; simp
      have e2 : H2 p = some (.dK []) := (a2.but p pF p1).trans upd_same
      have pF2 : p ∉ F2 := fun z => (a2.sub p z).elim pF p1
      have pG : p ∉ G := fun z => (ap.sub p z).elim pF p1
      have hl : kvs.length ≤ 15 := by
        have := congrArg List.length ow.keys
        rw [List.length_map, List.length_map] at this
        omega
      refine ⟨e2, kvs, rfl, hl, ?_⟩
      obtain ⟨G', w1, w2, w3⟩ := Owk.fold ow (.nil : Owk X.prog X.w X.K H2 [] [] []) (by simp) (fun a h => by simp at h)
      have w3' : ∀ a ∈ G', a ∈ G := fun a ha => (w3 a ha).elim (fun z => by simp at z) id
      have pG' : p ∉ G' := fun z => pG (w3' p z)
      have st : Stb H2 (upd H2 p (.dK (mergeK [] kvs))) := (upd_but (F := [p]) List.mem_cons_self).stb fun c hc => by
        rcases List.mem_singleton.mp hc with rfl
        exact .inr ⟨_, e2⟩
      have off : ∀ b, b ≠ p → upd H2 p (.dK (mergeK [] kvs)) b = H2 b := fun b hb => upd_ne hb
      have a02 := a0.trans a2 (r := pureP ps) fun z => ⟨z, z⟩
      refine q (.ref p) _ F2 (p :: G') ⟨a02.ok.keep st fun b hb => off b fun z => pF2 (z ▸ hb), a02.sub, fun b hb hn => ?_, fun b hn => upd_nn b (a02.nn b hn), a02.stb.trans st, fun z => ?_⟩ (.dct upd_same (Owk.keep st _ w1 fun b hb => off b fun z => pG' (z ▸ hb)) pG' w2) ⟨fun b hb => ?_, fun b hb => ?_⟩
      · rw [off b fun z => hn (z ▸ hp)]
        exact a02.but b hb hn
      · obtain ⟨r1, r2, r3⟩ := a02.pur z
        exact ⟨r1, r2, fun b hb => (off b fun z => pF (z ▸ hb)).trans (r3 b hb)⟩
      · rcases List.mem_cons.mp hb with rfl | hb
        · exact pF2
        · exact ap.off b (w3' b hb)
      · rcases List.mem_cons.mp hb with rfl | hb
        · exact .inr hp
        · exact (ap.back a0).sub b (w3' b hb)
    · cases he
end
end EV

set_option Elab.async false
set_option linter.all false
set_option maxRecDepth 100000
set_option maxHeartbeats 1000000
/-! EV22: calls of one's own defs (own work, over the hand layer's rules). -/
namespace EV
open PySem PySem.Spec PyProof.Rows L2
section
variable (P : Program) (w : World) (K : Frg) (H : Hp)
/-- an argument, an object behind a call -/
def SlV (v : V) (sl : Sl) (G : List Addr) : Prop := match sl with
  | .val d => G = [] ∧ Rl true P w K H v d
  | .own o => Ow P w K H v o G
inductive SlsO : List V → List Sl → List Addr → Prop
  | nil : SlsO [] [] []
  | cons {v : V} {sl : Sl} {vs : List V} {ss : List Sl} {G G' : List Addr} : SlV P w K H v sl G → SlsO vs ss G' → (∀ a ∈ G, a ∉ G') → SlsO (v :: vs) (sl :: ss) (G ++ G')
/-- what a call gives -/
def RvP (v : V) (r : RV) (G : List Addr) : Prop := match r with
  | .val d => G = [] ∧ Rl true P w K H v d
  | .own o => Ow P w K H v o G
  | .brw _ => False
end
/-- a def's promise -/
def SpC (P : Program) (w : World) (K : Frg) (c : List Sl → Option (RV × List Sl)) : Sp := fun vs H Q _ => ∃ ss G r outs, SlsO P w K H vs ss G ∧ c ss = some (r, outs) ∧
  ∀ v H' G' Gr, SlsO P w K H' vs outs G' → RvP P w K H' v r Gr → (∀ a ∈ Gr, a ∉ G') → (∀ a, a ∈ G' ∨ a ∈ Gr → a ∈ G ∨ H a = none) → But G H H' → (∀ b, H b ≠ none → H' b ≠ none) → Q v H'
section
variable {X : Cx} {C : Cfg} {pos : Pos} {σ : L2.St}
/-- arguments as they were written -/
inductive AgsO (X : Cx) (H : Hp) (σ : L2.St) : List V → List Ag → Prop
  | nil : AgsO X H σ [] []
  | val {v : V} {d : D} {vs : List V} {as : List Ag} : Rs X H v d → AgsO X H σ vs as → AgsO X H σ (v :: vs) (.val d :: as)
  | lend {v : V} {i : Nat} {vs : List V} {as : List Ag} : σ[i]? = some (some v) → AgsO X H σ vs as → AgsO X H σ (v :: vs) (.lend i :: as)
theorem AgsO.stb {H H' : Hp} (s : Stb H H') : ∀ {vs : List V} {as : List Ag}, AgsO X H σ vs as → AgsO X H' σ vs as
  | _, _, .nil => .nil
  | _, _, .val h t => .val (Rl.stb s _ h) (AgsO.stb s t)
  | _, _, .lend h t => .lend h (AgsO.stb s t)
def TAg (X : Cx) (C : Cfg) (es : CL) : TA := fun σ H Q => ∃ env F as env', EnvOk X.prog X.w X.K H σ env F ∧ evA C es env = some (as, env') ∧ ∀ vs H' F', Aft X σ (pureL es) H env F H' env' F' → AgsO X H' σ vs as → Q vs H'
theorem ag_nil : PA X [] (TAg X C .nil) := pa_nil.of fun σ H Q ⟨env, F, as, env', ho, he, q⟩ => by
  have he : some ([], env) = some (as, env') := he
  cases he
  exact q [] H F (Aft.refl ho) .nil
theorem evA_val {e : CE} {es : CL} {env env' : Ev} {as : List Ag} (hn : ∀ i, e ≠ .lend i) (h : evA C (.cons e es) env = some (as, env')) : ∃ r e1 d as', ev C e env = some (r, e1) ∧ r.keep = some d ∧ evA C es e1 = some (as', env') ∧ as = .val d :: as' := by
  rw [evA] at h
  · split at h
    · cases h
    · rename_i r e1 ea
      obtain ⟨d, hd, e2⟩ := Option.bind_eq_some_iff.mp h
      obtain ⟨q, hq, e3⟩ := Option.map_eq_some_iff.mp e2
      cases e3
      exact ⟨r, e1, d, q.1, ea, hd, hq, rfl⟩
  · exact hn
theorem ag_val {a : Expr} {a' : CE} {es : List Expr} {es' : CL} (hn : ∀ i, a' ≠ .lend i) (hs : notStar a = true) (ha : PE X a (TEv X C a')) (hr : PA X es (TAg X C es')) : PA X (a :: es) (TAg X C (.cons a' es')) := (pa_cons' ha.op hr hs).of fun σ H Q ⟨env, F, as, env', ho, he, q⟩ => by
  obtain ⟨r, e1, d, as', ea, hk, er, rfl⟩ := evA_val hn he
  refine ⟨env, F, r, e1, ho, ea, fun x H1 F1 G1 a1 o1 _ => ⟨e1, F1, as', env', a1.ok, er, fun vs H2 F2 a2 g2 => ?_⟩⟩
  exact q (x :: vs) H2 F2 (a1.trans a2 fun z => and2 z) (.val (Rl.stb a2.stb d (o1.2.kept hk)) g2)
theorem ag_lend {x : Str} {p : Pos} {i : Nat} {es : List Expr} {es' : CL} (hN : X.N[i]? = some x) (hv : Vis X.env.scope x) (hd : (x == ("__debug__" : Str)) = false) (hcd : (x == ("__classdict__" : Str)) = false) (hr : PA X es (TAg X C es')) :
    PA X (.Name x p :: es) (TAg X C (.cons (.lend i) es')) := (pa_cons' (pe_var (pos := p) hN hv hd hcd) hr rfl).of fun σ H Q ⟨env, F, as, env', ho, he, q⟩ => by
  rw [evA] at he
  split at he
  · rename_i sl e
    obtain ⟨p, hp, e2⟩ := Option.map_eq_some_iff.mp he
    cases e2
    obtain ⟨x1, G, e1, s1, sub, _⟩ := ho.at e
    have hv : ∃ v, x1 = some v := by
      match sl, s1 with
      | .val d, ⟨_, v, h, _⟩ => exact ⟨v, h⟩
      | .own o, ⟨v, h, _⟩ => exact ⟨v, h⟩
    obtain ⟨v, rfl⟩ := hv
    exact ⟨v, e1, env, F, p.1, p.2, ho, hp, fun vs H2 F2 a2 g2 => q (v :: vs) H2 F2 (a2.imp fun z => (by cases z)) (.lend e1 g2)⟩
  · cases he
/-- the lent objects are taken out -/
theorem take_all {H : Hp} : ∀ {vs : List V} {as : List Ag} {env e2 : Ev} {F : List Addr} {ss : List Sl}, EnvOk X.prog X.w X.K H σ env F → AgsO X H σ vs as → lent env as = some (ss, e2) →
    ∃ F2 G, EnvOk X.prog X.w X.K H σ e2 F2 ∧ SlsO X.prog X.w X.K H vs ss G ∧ (∀ a ∈ G, a ∉ F2) ∧ (∀ a ∈ F2, a ∈ F) ∧ (∀ a ∈ G, a ∈ F) ∧ (noLend as = true → G = [])
  | _, _, env, e2, F, ss, ok, .nil, h => by
    have h : some ([], env) = some (ss, e2) := h
    cases h
    exact ⟨F, [], ok, .nil, fun a h => by simp at h, fun a h => h, fun a h => by simp at h, fun _ => rfl⟩
  | _, _, env, e2, F, ss, ok, @AgsO.val _ _ _ v d vs as h1 t, h => by
    obtain ⟨p, hp, e⟩ := Option.map_eq_some_iff.mp (show (lent env as).map (fun p => (Sl.val d :: p.1, p.2)) = some (ss, e2) from h)
    cases e
    obtain ⟨F2, G, r1, r2, r3, r4, r5, r6⟩ := take_all ok t hp
    exact ⟨F2, [] ++ G, r1, .cons (show SlV X.prog X.w X.K H v (.val d) [] from ⟨rfl, h1⟩) r2 (fun a h => by simp at h), by simpa using r3, r4, by simpa using r5, fun n => by simpa using r6 n⟩
  | _, _, env, e2, F, ss, ok, @AgsO.lend _ _ _ v i vs as h1 t, h => by
    have h : (match env[i]? with
      | some (some (.own o)) => (lent (env.set i none) as).map fun p => (Sl.own o :: p.1, p.2)
      | _ => none) = some (ss, e2) := h
    split at h
    · rename_i o eo
      obtain ⟨p, hp, e⟩ := Option.map_eq_some_iff.mp h
      cases e
      obtain ⟨x, G1, e1, s1, sub, rp⟩ := ok.at eo
      obtain ⟨v', rfl, ow⟩ := s1
      rw [h1] at e1
      cases e1
      obtain ⟨F1, ok1, sF1⟩ := rp H (some v) none [] (Stb.refl _) (fun _ _ _ => rfl) rfl (fun a h => by simp at h)
      rw [set_same h1] at ok1
      have sF1' : ∀ a ∈ F1, a ∈ F ∧ a ∉ G1 := fun a ha => (sF1 a ha).elim (fun z => by simp at z) id
      obtain ⟨F2, G, r1, r2, r3, r4, r5, r6⟩ := take_all ok1 t hp
      refine ⟨F2, G1 ++ G, r1, .cons (show SlV X.prog X.w X.K H v (.own o) G1 from ow) r2 (fun a ha hb => (sF1' a (r5 a hb)).2 ha), fun a ha hb => ?_, fun a ha => (sF1' a (r4 a ha)).1, fun a ha => ?_, fun n => by cases n⟩
      · rcases List.mem_append.mp ha with z | z
        · exact (sF1' a (r4 a hb)).2 z
        · exact r3 a z hb
      · rcases List.mem_append.mp ha with z | z
        · exact sub a z
        · exact (sF1' a (r5 a z)).1
    · cases h
/-- .. and put back -/
theorem back_all' {H H1 : Hp} : ∀ {vs : List V} {as : List Ag} {outs : List Sl} {env e3 : Ev} {F G : List Addr}, EnvOk X.prog X.w X.K H σ env F → AgsO X H1 σ vs as → SlsO X.prog X.w X.K H vs outs G → (∀ a ∈ G, a ∉ F) → backL env as outs = some e3 →
    ∃ F3, EnvOk X.prog X.w X.K H σ e3 F3 ∧ ∀ a ∈ F3, a ∈ F ∨ a ∈ G
  | _, _, _, env, e3, F, G, ok, .nil, hs, _, h => by
    cases hs
    have h : some env = some e3 := h
    cases h
    exact ⟨F, ok, fun a h => .inl h⟩
  | _, _, _, env, e3, F, _, ok, .val _ t, @SlsO.cons _ _ _ _ _ sl _ ss G1 G2 h1 h2 _, d, h => by
    obtain ⟨F3, r1, r2⟩ := back_all' ok t h2 (fun a ha => d a (List.mem_append_right _ ha)) (show backL env _ ss = some e3 from h)
    exact ⟨F3, r1, fun a ha => (r2 a ha).imp id (List.mem_append_right _)⟩
  | _, _, _, env, e3, F, _, ok, @AgsO.lend _ _ _ v i vs as hv t, @SlsO.cons _ _ _ _ _ (.val _) _ ss G1 G2 h1 h2 _, d, h => by cases h
  | _, _, _, env, e3, F, _, ok, @AgsO.lend _ _ _ v i vs as hv t, @SlsO.cons _ _ _ _ _ (.own o) _ ss G1 G2 h1 h2 h3, d, h => by
    have h1 : Ow X.prog X.w X.K H v o G1 := h1
    obtain ⟨F1, ok1, s1⟩ := ok.put i (x' := some v) (sl' := some (.own o)) ⟨v, rfl, h1⟩ fun a ha => d a (List.mem_append_left _ ha)
    rw [set_same hv] at ok1
    obtain ⟨F3, r1, r2⟩ := back_all' ok1 t h2 (fun a ha hb => by
      rcases s1 a hb with z | z
      · exact h3 a z ha
      · exact d a (List.mem_append_right _ ha) z) (show backL (env.set i (some (.own o))) as ss = some e3 from h)
    refine ⟨F3, r1, fun a ha => ?_⟩
    rcases r2 a ha with z | z
    · exact (s1 a z).elim (fun q => .inr (List.mem_append_left _ q)) .inl
    · exact .inr (List.mem_append_right _ z)
end
end EV

set_option Elab.async false
set_option linter.all false
set_option maxRecDepth 100000
set_option maxHeartbeats 1000000
/-! EV23: the call itself (own work, over the hand layer's rules). -/
namespace EV
open PySem PySem.Spec PyProof.Rows L2
/-! ### the written order, the parameters' order -/
theorem zip_take {α β : Type} : ∀ (ps : List α) (us : List β), ps.zip us = (ps.take us.length).zip us
  | [], _ => by simp
  | p :: ps, [] => by simp
  | p :: ps, u :: us => by simp [← zip_take ps us]
theorem lookup_at {p : Str} : ∀ {keys : List Str} {us : List Value}, keys.length = us.length → p ∈ keys → (keys.zip us).lookup p = us[keys.findIdx fun q => decide (q = p)]?
  | [], _, _, h => by simp at h
  | k :: keys, [], hl, _ => by simp at hl
  | k :: keys, u :: us, hl, h => by
    by_cases e : k = p
    · subst e
      simp [List.findIdx_cons]
    · have hb : (p == k) = false := beq_eq_false_iff_ne.mpr fun z => e z.symm
      rw [List.zip_cons_cons, List.lookup_cons, hb, lookup_at (p := p) (keys := keys) (us := us) (by simpa using hl) ((List.mem_cons.mp h).resolve_left fun z => e z.symm)]
      simp [List.findIdx_cons, e]
theorem mapM_get_pair {α β : Type} {R : α → β → Prop} {xs : List α} {ys : List β} (hl : xs.length = ys.length) (hR : ∀ (i : Nat) x y, xs[i]? = some x → ys[i]? = some y → R x y) : ∀ {ix : List Nat} {xs' : List α}, ix.mapM (fun i => xs[i]?) = some xs' → ∃ ys', ix.mapM (fun i => ys[i]?) = some ys' ∧ Paired R xs' ys'
  | [], xs', h => by
    have h : some [] = some xs' := h
    cases h
    exact ⟨[], rfl, .nil⟩
  | i :: ix, xs', h => by
    rw [List.mapM_cons] at h
    cases e : xs[i]? with
    | none => rw [e] at h; cases h
    | some x =>
      rw [e] at h
      cases e2 : ix.mapM (fun i => xs[i]?) with
      | none => rw [e2] at h; cases h
      | some zs =>
        rw [e2] at h
        have h : some (x :: zs) = some xs' := h
        cases h
        obtain ⟨ys', h1, h2⟩ := mapM_get_pair hl hR e2
        have hi : i < ys.length := by rw [← hl]; exact (List.getElem?_eq_some_iff.mp e).1
        have ey : ys[i]? = some ys[i] := List.getElem?_eq_getElem hi
        refine ⟨ys[i] :: ys', ?_, .cons (hR i x _ e ey) h2⟩
        rw [List.mapM_cons, ey, h1]
        rfl
theorem lookup_map {S : List (Str × Value)} {us : List Value} {keys : List Str} : ∀ {ps : List Str} {us' : List Value}, (∀ p ∈ ps, S.lookup p = us[keys.findIdx fun q => decide (q = p)]?) → (ordK ps keys).mapM (fun i => us[i]?) = some us' → ps.mapM (fun p => S.lookup p) = some us'
  | [], us', _, h => h
  | p :: ps, us', hS, h => by
    have h : ((keys.findIdx fun q => decide (q = p)) :: ordK ps keys).mapM (fun i => us[i]?) = some us' := h
    rw [List.mapM_cons] at h ⊢
    rw [hS p List.mem_cons_self]
    cases e : us[keys.findIdx fun q => decide (q = p)]? with
    | none => rw [e] at h; cases h
    | some v =>
      rw [e] at h
      cases e2 : (ordK ps keys).mapM (fun i => us[i]?) with
      | none => rw [e2] at h; cases h
      | some vs =>
        rw [e2] at h
        have := lookup_map (fun q hq => hS q (List.mem_cons_of_mem _ hq)) e2
        rw [this]
        exact h
theorem nodup_take {ps ks : List Str} {n : Nat} (h : (ps.take n ++ ks).Nodup) {us : List Value} {ws : List Value} (h1 : us.length = n) (h2 : n ≤ ps.length) (h3 : ks.length = ws.length) : ((ps.zip us).map (·.1) ++ (ks.zip ws).map (·.1)).Nodup := by
  have e1 : (ps.zip us).map (·.1) = ps.take n := by
    rw [zip_take, h1, show (fun x : Str × Value => x.1) = Prod.fst from rfl, List.map_fst_zip (by simp; omega)]
  have e2 : (ks.zip ws).map (·.1) = ks := by
    rw [show (fun x : Str × Value => x.1) = Prod.fst from rfl, List.map_fst_zip (by omega)]
  rw [e1, e2]
  exact h
section
variable {X : Cx} {C : Cfg} {pos : Pos} {σ : L2.St}
/-- what is known of the def f -/
structure CallS (X : Cx) (c : List Str → List Sl → Option (RV × List Sl)) (f : Str) (fa : Addr) (fd : FuncData) (ps : List Str) (k : Nat) (c0 : List Sl → Option (RV × List Sl)) : Prop where
  fmg : X.mg f = some (.ref fa)
  fkp : PySem.W.keepIn X.K (.ref fa) = true
  ffd : PlainFd fd ps
  fnd : ps.Nodup
  fok : FnG X.prog X.w X.K X.mg X.base CX0 k fa fd ps (SpC X.prog X.w X.K c0)
  frm : Room k X.A
  fpos : ∀ ss, c [] ss = c0 ss
  fkw : ∀ ks ss, ks ≠ [] → c ks ss = if (ownIx 0 ss).isEmpty then (byName ps ks ss).bind fun ss' => (c0 ss').map fun p => (p.1, ss) else none
theorem slsO_len {P : Program} {w : World} {K : Frg} {H : Hp} : ∀ {vs : List V} {ss : List Sl} {G : List Addr}, SlsO P w K H vs ss G → vs.length = ss.length
  | _, _, _, .nil => rfl
  | _, _, _, .cons _ t _ => by simp [slsO_len t]
theorem slsO_keep {P : Program} {w : World} {K : Frg} {H H' : Hp} (s : Stb H H') : ∀ {vs : List V} {ss : List Sl} {G : List Addr}, SlsO P w K H vs ss G → (∀ a ∈ G, H' a = H a) → SlsO P w K H' vs ss G
  | _, _, _, .nil, _ => .nil
  | _, _, _, @SlsO.cons _ _ _ _ v sl vs ss G G' h t d, e => by
    refine .cons ?_ (slsO_keep s t fun a ha => e a (List.mem_append_right _ ha)) d
    match sl, h with
    | .val d, h => exact ⟨h.1, Rl.stb s d h.2⟩
    | .own o, h => exact Ow.keep s o h fun a ha => e a (List.mem_append_left _ ha)
theorem slsO_foot {P : Program} {w : World} {K : Frg} {H : Hp} : ∀ {vs : List V} {ss : List Sl} {G : List Addr}, SlsO P w K H vs ss G → ∀ a ∈ G, IsMut H a
  | _, _, _, .nil, a, ha => by simp at ha
  | _, _, _, @SlsO.cons _ _ _ _ v sl vs ss G G' h t d, a, ha => by
    rcases List.mem_append.mp ha with z | z
    · match sl, h with
      | .val d, h => rw [h.1] at z; simp at z
      | .own o, h => exact Ow.foot o h a z
    · exact slsO_foot t a z
theorem own_vals {P : Program} {w : World} {K : Frg} {H : Hp} : ∀ {vs : List V} {ss : List Sl} {G : List Addr} {n : Nat}, SlsO P w K H vs ss G → (ownIx n ss).isEmpty = true → G = [] ∧ ∀ (i : Nat) v sl, ss[i]? = some sl → vs[i]? = some v → SlV P w K H v sl []
  | _, _, _, _, .nil, _ => ⟨rfl, fun i v sl h => by simp at h⟩
  | _, _, _, n, @SlsO.cons _ _ _ _ v sl vs ss G G' h t d, e => by
    match sl, h, e with
    | .val d, h, e =>
      obtain ⟨rfl, h1⟩ := h
      obtain ⟨rfl, h2⟩ := own_vals t (show (ownIx (n + 1) ss).isEmpty = true from e)
      refine ⟨rfl, fun i v' sl' e1 e2 => ?_⟩
      cases i with
      | zero =>
        simp at e1 e2
        subst e1 e2
        exact ⟨rfl, h1⟩
      | succ i => exact h2 i v' sl' (by simpa using e1) (by simpa using e2)
    | .own o, h, e => cases e
theorem slsO_of {P : Program} {w : World} {K : Frg} {H : Hp} : ∀ {vs : List V} {ss : List Sl}, Paired (fun sl v => SlV P w K H v sl []) ss vs → SlsO P w K H vs ss []
  | _, _, .nil => .nil
  | _, _, .cons h t => SlsO.cons (G := []) (G' := []) h (slsO_of t) (fun a h => by simp at h)
theorem noLend_of : ∀ {as : List Ag} {env : Ev} {p : List Sl × Ev} {n : Nat}, lent env as = some p → (ownIx n p.1).isEmpty = true → noLend as = true
  | [], _, _, _, _, _ => rfl
  | .val d :: as, env, p, n, h, e => by
    obtain ⟨q, h1, rfl⟩ := Option.map_eq_some_iff.mp (show (lent env as).map (fun p => (Sl.val d :: p.1, p.2)) = some p from h)
    exact noLend_of (as := as) (n := n + 1) h1 e
  | .lend i :: as, env, p, n, h, e => by
    unfold lent at h
    split at h
    · obtain ⟨q, h1, rfl⟩ := Option.map_eq_some_iff.mp h
      cases e
    · cases h
/-- behind a call -/
theorem call_post {es : CL} {p : Bool} {H H1 : Hp} {env e1 e2 e3 : Ev} {F F1 F2 G : List Addr} {vs : List V} {as : List Ag} {ss outs : List Sl} {r : RV} {Q : VK} (a1 : Aft X σ p H env F H1 e1 F1) (g : AgsO X H1 σ vs as)
    (ok2 : EnvOk X.prog X.w X.K H1 σ e2 F2) (sl : SlsO X.prog X.w X.K H1 vs ss G) (off : ∀ a ∈ G, a ∉ F2) (sF : ∀ a ∈ F2, a ∈ F1) (sG : ∀ a ∈ G, a ∈ F1) (eb : backL e2 as outs = some e3) (pu : p = true → G = [] ∧ e3 = e1)
    (q : ∀ v H' F' G', Aft X σ p H env F H' e3 F' → RvO X H' F' v r G' → Apart H F F' G' → Q v H') :
    ∀ v H' G' Gr, SlsO X.prog X.w X.K H' vs outs G' → RvP X.prog X.w X.K H' v r Gr → (∀ a ∈ Gr, a ∉ G') → (∀ a, a ∈ G' ∨ a ∈ Gr → a ∈ G ∨ H1 a = none) → But G H1 H' → (∀ b, H1 b ≠ none → H' b ≠ none) → Q v H' := by
  intro v H' G' Gr ho hr dj sb bt nn
  have st : Stb H1 H' := bt.stb (slsO_foot sl)
  have back : ∀ a, a ∈ G ∨ H1 a = none → a ∈ F ∨ H a = none := fun a h => by
    rcases h with z | z
    · exact a1.sub a (sG a z)
    · cases e : H a with
      | none => exact .inr rfl
      | some u => exact absurd z (a1.nn a (by rw [e]; simp))
  have rvo : ∀ F', RvO X H' F' v r Gr := fun F' => by
    match r, hr with
    | .val d, hr => exact hr
    | .own o, hr => exact hr
  cases hp : p with
  | true =>
    obtain ⟨rfl, rfl⟩ := pu hp
    have sm : Same H1 H' := But.nil_same bt
    obtain ⟨r1, r2, _⟩ := a1.pur hp
    rw [hp] at a1 q
    have af := a1.more sm
    refine q v H' F1 Gr af (rvo _) ⟨fun a ha z => ?_, fun a ha => back a (sb a (.inr ha))⟩
    rcases sb a (.inr ha) with y | y
    · simp at y
    · exact (a1.ok.foot a z).ne y
  | false =>
    rw [hp] at a1 q
    have k2 : ∀ a ∈ F2, H' a = H1 a := fun a ha => bt a (fun z => off a z ha) (ok2.foot a ha).ne
    obtain ⟨F3, ok3, s3⟩ := back_all' (ok2.keep st k2) g ho (fun a ha z => by
      rcases sb a (.inl ha) with y | y
      · exact off a y z
      · exact (ok2.foot a z).ne y) eb
    refine q v H' F3 Gr ⟨ok3, fun a ha => ?_, fun b hb hn => ?_, fun b hn => nn b (a1.nn b hn), a1.stb.trans st, fun z => nomatch z⟩ (rvo _) ⟨fun a ha z => ?_, fun a ha => back a (sb a (.inr ha))⟩
    · rcases s3 a ha with y | y
      · exact a1.sub a (sF a y)
      · exact back a (sb a (.inl y))
    · rw [bt b (fun z => ?_) (a1.nn b hn)]
      · exact a1.but b hb hn
      · rcases a1.sub b (sG b z) with y | y
        · exact hb y
        · exact hn y
    · rcases s3 a z with y | y
      · rcases sb a (.inr ha) with x | x
        · exact off a x y
        · exact (ok2.foot a y).ne x
      · exact dj a ha y
end
end EV

set_option Elab.async false
set_option linter.all false
set_option maxRecDepth 100000
set_option maxHeartbeats 1000000
/-! EV24: f(..), f(.., k = ..) (own work, over the hand layer's rules). -/
namespace EV
open PySem PySem.Spec PyProof.Rows L2
section
variable {X : Cx} {C : Cfg} {pos : Pos} {σ : L2.St}
theorem sp_len {P : Program} {w : World} {K : Frg} {c : List Sl → Option (RV × List Sl)} {vs : List V} {H : Hp} {Q : VK} {E : XK} (h : SpC P w K c vs H Q E) : ∃ ss r, c ss = some r ∧ vs.length = ss.length := by
  obtain ⟨ss, G, r, outs, h1, h2, _⟩ := h
  exact ⟨ss, _, h2, slsO_len h1⟩
theorem vals_take {vs : List V} {us : List Value} (r : Vals vs us) (m : Nat) : Vals (vs.take m) (us.take m) := r.take m
/-- the call, its arguments read: up the positional values, uk the keywords' -/
theorem call_run {f : Str} {fa : Addr} {fd : FuncData} {ps ks : List Str} {k : Nat} {c0 : List Sl → Option (RV × List Sl)} (S : CallS X (C.call f) f fa fd ps k c0) (hg : X.A.guards = some []) {p : Bool} {pins : List (Addr × Obj)} {s : Shared} {H H1 : Hp} {env e1 e2 e3 : Ev} {F F1 : List Addr}
    {vs : List V} {as : List Ag} {ss outs : List Sl} {r : RV} {Q : VK} {up uk : List Value} (I : Inv X pins σ H1 s) (a1 : Aft X σ p H env F H1 e1 F1) (g : AgsO X H1 σ vs as) (el : lent e1 as = some (ss, e2)) (ec : C.call f ks ss = some (r, outs)) (hb : r.isBrw = false)
    (eb : backL e2 as outs = some e3) (pu : p = true → noLend as = true) (q : ∀ v H' F' G', Aft X σ p H env F H' e3 F' → RvO X H' F' v r G' → Apart H F F' G' → Q v H') (rv : Vals vs (up ++ uk)) (hk : ks.length = uk.length) :
    wpAny (model X.prog X.w) X.A (call (.ref fa) up (ks.zip uk)) (EP X pins σ Q) X.xe s := by
  obtain ⟨F2, G, ok2, sl, off, sF, sG, nl⟩ := take_all a1.ok g el
  have run : ∀ (us' : List Value) (vs' : List V), Vals vs' us' → BindsTo s fd ⟨up, ks.zip uk⟩ (ps.zip us') → SpC X.prog X.w X.K c0 vs' H1 Q E0 → wpAny (model X.prog X.w) X.A (call (.ref fa) up (ks.zip uk)) (EP X pins σ Q) X.xe s := by
    intro us' vs' r1 hb1 sp
    refine wpAny_call (codeAny_mono (runG S.fok S.frm hg pass0 I hb1 r1 sp) fun r s' hq => ?_)
    match r, hq with
    | .ok (.ret v), hq => exact hq
    | .error e, hq => exact hq
  have purG : p = true → G = [] ∧ e3 = e1 := fun z => by
    have n := pu z
    have e2' := lent_same n el
    have e2' : e2 = e1 := e2'
    subst e2'
    exact ⟨nl n, backL_same n eb⟩
  have post := call_post (es := .nil) (Q := Q) (r := r) a1 g ok2 sl off sF sG eb purG q
  by_cases hks : ks = []
  · subst hks
    have huk : uk = [] := List.eq_nil_of_length_eq_zero hk.symm
    subst huk
    rw [List.append_nil] at rv
    have sp : SpC X.prog X.w X.K c0 vs H1 Q E0 := ⟨ss, G, r, outs, sl, (S.fpos ss).symm.trans ec, post⟩
    have hl : up.length = ps.length := by rw [← rv.length]; exact S.fok.len _ _ _ _ sp
    refine run up vs rv (.of_eq (bind_gen (ks := []) (ws := []) S.ffd (Nat.le_of_eq hl) ?_ (fun k hk => by simp at hk) ?_)) sp
    · have := nodup_take (ps := ps) (ks := []) (n := up.length) (us := up) (ws := []) (by rw [List.append_nil]; exact (List.take_sublist _ _).nodup S.fnd) rfl (Nat.le_of_eq hl) rfl
      exact this
    · have e1 : ordK ps ps = List.range ps.length := by
        apply List.ext_getElem?
        intro i
        unfold ordK
        rw [List.getElem?_map]
        by_cases hi : i < ps.length
        · rw [List.getElem?_eq_getElem hi, List.getElem?_range hi]
          show some _ = some i
          congr 1
          have h1 : (ps.findIdx fun q => decide (q = ps[i])) ≤ i := by
            apply Nat.le_of_not_lt
            intro h
            have := List.not_of_lt_findIdx h
            simp at this
          have h2 : (ps.findIdx fun q => decide (q = ps[i])) < ps.length := Nat.lt_of_le_of_lt h1 hi
          have h3 := List.findIdx_getElem (w := h2)
          have h3 : ps[ps.findIdx fun q => decide (q = ps[i])] = ps[i] := by simpa using h3
          exact (List.getElem_inj S.fnd).mp h3
        · rw [List.getElem?_eq_none (by omega), List.getElem?_eq_none (by simp; omega)]
          rfl
      refine lookup_map (us := up) (keys := ps) (fun q hq => ?_) ?_
      · rw [List.zip_nil_left, List.append_nil]
        exact lookup_at (by omega) hq
      · rw [e1]
        have go : ∀ (l : List Value) (n : Nat) (pre : List Value), pre.length = n → (List.range' n l.length).mapM (fun i => (pre ++ l)[i]?) = some l := by
          intro l
          induction l with
          | nil => intro n pre _; rfl
          | cons x l ih =>
            intro n pre hp
            rw [List.length_cons, List.range'_succ, List.mapM_cons]
            have e : (pre ++ x :: l)[n]? = some x := by subst hp; simp
            rw [e]
            have := ih (n + 1) (pre ++ [x]) (by simp [hp])
            rw [List.append_assoc] at this
            have this : (List.range' (n + 1) l.length).mapM (fun i => (pre ++ x :: l)[i]?) = some l := this
            rw [this]
            rfl
        have := go up 0 [] rfl
        rw [List.nil_append] at this
        rw [List.range_eq_range', ← hl]
        exact this
  · have ec := (S.fkw ks ss hks).symm.trans ec
    split at ec
    · rename_i hown
      obtain ⟨ss', hb1, ec⟩ := Option.bind_eq_some_iff.mp ec
      obtain ⟨pr, hc0, ee⟩ := Option.map_eq_some_iff.mp ec
      cases ee
      unfold byName at hb1
      dsimp only at hb1
      split at hb1
      · rename_i hc
        obtain ⟨c1, c2, c3, c4, c5⟩ := hc
        obtain ⟨rfl, hvals⟩ := own_vals sl hown
        have lv : vs.length = ss.length := slsO_len sl
        have lu : (up ++ uk).length = ss.length := by rw [← rv.length]; exact lv
        have lup : up.length = ss.length - ks.length := by rw [List.length_append] at lu; omega
        -- the values in the parameters' order
        obtain ⟨vs', hv', pv⟩ := mapM_get_pair (R := fun sl v => SlV X.prog X.w X.K H1 v sl []) lv.symm (fun i x y hx hy => hvals i y x hx hy) hb1
        obtain ⟨us', hu', puu⟩ := mapM_get_pair (R := fun v u => RelV v u) rv.length (fun i x y hx hy => by
          obtain ⟨u, h1, h2⟩ := vals_get rv hx
          rw [hy] at h1
          cases h1
          exact h2) hv'
        have sl' : SlsO X.prog X.w X.K H1 vs' ss' [] := slsO_of pv
        have vv : Vals vs' us' := by
          clear hu' hv' pv sl' hb1
          induction puu with
          | nil => exact .nil
          | cons h _ ih => exact .cons h ih
        have len2 : up.length ≤ ps.length := by omega
        have keysl : (ps.take (ss.length - ks.length) ++ ks).length = (up ++ uk).length := by
          rw [List.length_append, List.length_append, List.length_take]; omega
        refine run us' vs' vv (.of_eq (bind_gen S.ffd len2 (nodup_take c3 lup (by omega) hk) (fun x hx => ?_) (lookup_map (us := up ++ uk) (keys := ps.take (ss.length - ks.length) ++ ks) (fun q hq => ?_) hu'))) ⟨ss', [], pr.1, pr.2, sl', hc0, ?_⟩
        · have e2 : (ks.zip uk).map (·.1) = ks := by
            rw [show (fun x : Str × Value => x.1) = Prod.fst from rfl, List.map_fst_zip (by omega)]
          rw [e2] at hx
          have := List.all_eq_true.mp c4 x hx
          simpa using this
        · have eS : ps.zip up ++ ks.zip uk = (ps.take (ss.length - ks.length) ++ ks).zip (up ++ uk) := by
            rw [zip_take ps up, lup]
            exact (List.zip_append (by rw [List.length_take]; omega)).symm
          rw [eS]
          exact lookup_at keysl (by have := List.all_eq_true.mp c5 q hq; simpa using this)
        · intro v H' G' Gr ho hr dj sb bt nn
          have sm : Same H1 H' := But.nil_same bt
          refine post v H' [] Gr (slsO_keep (Stb.of_same sm) sl fun a h => by simp at h) hr (fun a _ h => by simp at h) (fun a ha => sb a (.inr (ha.elim (fun z => by simp at z) id))) bt nn
      · cases hb1
    · cases ec
end
end EV

set_option Elab.async false
set_option linter.all false
set_option maxRecDepth 100000
set_option maxHeartbeats 1000000
/-! EV25: calls as expressions (own work, over the hand layer's rules). -/
namespace EV
open PySem PySem.Spec PyProof.Rows L2
section
variable {X : Cx} {C : Cfg} {pos : Pos} {σ : L2.St}
theorem AgsO.append {H : Hp} {vs ws : List V} {as bs : List Ag} (h : AgsO X H σ vs as) (g : AgsO X H σ ws bs) : AgsO X H σ (vs ++ ws) (as ++ bs) := by
  induction h with
  | nil => exact g
  | val h t ih => exact .val h ih
  | lend h t ih => exact .lend h ih
theorem lend_dec (e : CE) : (∃ i, e = .lend i) ∨ ∀ i, e ≠ .lend i := by
  cases e <;> first
    | exact .inl ⟨_, rfl⟩
    | exact .inr fun i => nofun
theorem evA_app {q : CL} : ∀ {p : CL} {env env' : Ev} {as : List Ag}, evA C (appL p q) env = some (as, env') → ∃ a1 e1 a2, evA C p env = some (a1, e1) ∧ evA C q e1 = some (a2, env') ∧ as = a1 ++ a2
  | .nil, env, env', as, h => ⟨[], env, as, rfl, h, rfl⟩
  | .cons e es, env, env', as, h => by
    have h : evA C (.cons e (appL es q)) env = some (as, env') := h
    rcases lend_dec e with ⟨i, rfl⟩ | hn
    · rw [evA] at h
      split at h
      · rename_i sl es'
        obtain ⟨p, hp, e2⟩ := Option.map_eq_some_iff.mp h
        cases e2
        obtain ⟨a1, e1, a2, h1, h2, h3⟩ := evA_app (show evA C (appL es q) env = some (p.1, p.2) from hp)
        refine ⟨.lend i :: a1, e1, a2, ?_, h2, by rw [h3]; rfl⟩
        rw [evA, es']
        show (evA C es env).map _ = _
        rw [h1]
        rfl
      · cases h
    · obtain ⟨r, e1, d, as', h1, h2, h3, rfl⟩ := evA_val hn h
      obtain ⟨a1, e2, a2, h4, h5, rfl⟩ := evA_app h3
      refine ⟨.val d :: a1, e2, a2, ?_, h5, rfl⟩
      rw [evA, h1]
      · show (r.keep.bind _) = _
        rw [h2]
        show (evA C es e1).map _ = _
        rw [h4]
        rfl
      · exact hn
/-- the keywords -/
inductive KwS (X : Cx) (C : Cfg) : List Keyword → List Str → CL → Prop
  | nil : KwS X C [] [] .nil
  | cons {x : Str} {e : Expr} {p : Pos} {kws : List Keyword} {ks : List Str} {e' : CE} {es' : CL} : (∀ i, e' ≠ .lend i) → PE X e (TEv X C e') → KwS X C kws ks es' → KwS X C (⟨some x, e, p⟩ :: kws) (x :: ks) (.cons e' es')
theorem pk_of {kws : List Keyword} {t t' : TA} (h : PK X kws t) (hi : ∀ σ H Q, t' σ H Q → t σ H Q) : PK X kws t' := ⟨fun pos pins s σ H Q I hw => h.run pos pins s σ H Q I (hi σ H Q hw)⟩
theorem KwS.pk : ∀ {kws : List Keyword} {ks : List Str} {es : CL}, KwS X C kws ks es → PK X kws (TAg X C es) ∧ (∀ pos, (backToKw pos (keywordEach kws X.env)).all (·.1.isSome) = true ∧ (backToKw pos (keywordEach kws X.env)).filterMap (·.1) = ks ∧ (backToKw pos (keywordEach kws X.env)).any (·.1.isNone) = false) ∧ ks.length = kws.length
  | _, _, _, .nil => ⟨pk_of pk_nil fun σ H Q ⟨env, F, as, env', ho, he, q⟩ => by
      have he : some ([], env) = some (as, env') := he
      cases he
      exact q [] H F (Aft.refl ho) .nil, fun _ => ⟨rfl, rfl, rfl⟩, rfl⟩
  | _, _, _, @KwS.cons _ _ x e p kws ks e' es' hn he t => by
    obtain ⟨h1, h2, h3⟩ := KwS.pk t
    refine ⟨pk_of (pk_cons he.op h1) fun σ H Q ⟨env, F, as, env', ho, hh, q⟩ => ?_, fun pos => ?_, by rw [List.length_cons, List.length_cons, h3]⟩
    · obtain ⟨r, e1, d, as', ea, hk, er, rfl⟩ := evA_val hn hh
      refine ⟨env, F, r, e1, ho, ea, fun x H1 F1 G1 a1 o1 _ => ⟨e1, F1, as', env', a1.ok, er, fun vs H2 F2 a2 g2 => ?_⟩⟩
      exact q (x :: vs) H2 F2 (a1.trans a2 fun z => and2 z) (.val (Rl.stb a2.stb d (o1.2.kept hk)) g2)
    · obtain ⟨i1, i2, i3⟩ := h2 pos
      have cons : backToKw pos (keywordEach (⟨some x, e, p⟩ :: kws) X.env) = (some x, do let v ← eval e X.env; standAt pos; pure v) :: backToKw pos (keywordEach kws X.env) := rfl
      rw [cons]
      refine ⟨?_, ?_, ?_⟩
      · rw [List.all_cons, i1]; rfl
      · rw [List.filterMap_cons, i2]
      · rw [List.any_cons, i3]; rfl
theorem AgsO.len {H : Hp} : ∀ {vs : List V} {as : List Ag}, AgsO X H σ vs as → vs.length = as.length
  | _, _, .nil => rfl
  | _, _, .val _ t => by simp [AgsO.len t]
  | _, _, .lend _ t => by simp [AgsO.len t]
theorem KwS.evlen : ∀ {kws : List Keyword} {ks : List Str} {es : CL} {env e1 : Ev} {as : List Ag}, KwS X C kws ks es → evA C es env = some (as, e1) → as.length = ks.length
  | _, _, _, env, e1, as, .nil, h => by
    have h : some ([], env) = some (as, e1) := h
    cases h; rfl
  | _, _, _, env, e1, as, .cons hn _ t, h => by
    obtain ⟨r, e2, d, as', _, _, h3, rfl⟩ := evA_val hn h
    rw [List.length_cons, List.length_cons, KwS.evlen t h3]
/-- the evaluator's steps of a call -/
theorem call_at {f : Str} {es : CL} {ks : List Str} {env env' : Ev} {r : RV} (h : ev C (.call f es ks) env = some (r, env')) : ∃ as e1 ss e2 outs, evA C es env = some (as, e1) ∧ lent e1 as = some (ss, e2) ∧ C.call f ks ss = some (r, outs) ∧ r.isBrw = false ∧ backL e2 as outs = some env' := by
  simp only [ev] at h
  split at h
  · cases h
  · rename_i as e1 ha
    split at h
    · cases h
    · rename_i ss e2 hl
      split at h
      · cases h
      · rename_i r' outs hc
        split at h
        · cases h
        · rename_i hb
          obtain ⟨e3, h1, h2⟩ := Option.map_eq_some_iff.mp h
          cases h2
          exact ⟨as, e1, ss, e2, outs, ha, hl, hc, by simpa using hb, h1⟩
theorem pure_no {es : CL} {env e1 : Ev} {as : List Ag} (h : evA C es env = some (as, e1)) (p : pureL es = true) : noLend as = true := (pure_evA p h).2
theorem evCall {f : Str} {p : Pos} {args : List Expr} {kws : List Keyword} {es ek : CL} {ks : List Str} {fa : Addr} {fd : FuncData} {ps : List Str} {k : Nat} {c0 : List Sl → Option (RV × List Sl)} (S : CallS X (C.call f) f fa fd ps k c0) (hg : X.A.guards = some []) (hgl : Gl X f) (hd : (f == ("__debug__" : Str)) = false)
    (hnil : args = [] → es = .nil) (hs : args.all notStar = true) (ha : PA X args (TAg X C es)) (hk : KwS X C kws ks ek) : PE X (.Call (.Name f p) args kws pos) (TEv X C (.call f (appL es ek) ks)) := by
  obtain ⟨pk, facts, lk⟩ := hk.pk
  obtain ⟨f1, f2, f3⟩ := facts pos
  refine ⟨fun pins s σ H Q I ⟨env, F, r, env', ho, he, q⟩ => ?_⟩
  obtain ⟨as, e1, ss, e2, outs, hA, hl, hc, hb, hbk⟩ := call_at he
  obtain ⟨a1, em, a2, h1, h2, rfl⟩ := evA_app hA
  -- behind the arguments
  have fin : ∀ {s2 : Shared} {H1 H2 : Hp} {F1 F2 : List Addr} {vs zs : List V} {up uk : List Value}, Aft X σ (pureL es) H env F H1 em F1 → AgsO X H1 σ vs a1 → Aft X σ (pureL ek) H1 em F1 H2 e1 F2 → AgsO X H2 σ zs a2 → Inv X pins σ H2 s2 → Vals vs up → Vals zs uk →
      uk.length = ks.length → wpAny (model X.prog X.w) X.A (call (.ref fa) up (ks.zip uk)) (EP X pins σ Q) X.xe s2 := by
    intro s2 H1 H2 F1 F2 vs zs up uk af1 g1 af2 g2 I2 r1 r2 lu
    have af := af1.trans af2 (r := pureL (appL es ek)) fun z => by rw [pureL_app] at z; exact and2 z
    exact call_run S hg (p := pureL (appL es ek)) I2 af ((g1.stb af2.stb).append g2) hl hc hb hbk (fun z => pure_no hA z) q (r1.append r2) lu.symm
  refine wpAny_Call_Name_kw (ld_glob I hgl S.fmg ?_ hd)
  have lenk : ∀ {H2 : Hp} {zs : List V} {ws : List Value}, AgsO X H2 σ zs a2 → Vals zs ws → ws.length = ks.length := fun g2 rz => by
    rw [← rz.length, g2.len, hk.evlen h2]
  match kws, hk, args, hs, ha, hnil, pk, f1, f2, f3 with
  | [], hk, [], _, ha, hnil, pk, f1, f2, f3 =>
    cases hk
    have hes := hnil rfl
    subst hes
    have h1' : some ([], env) = some (a1, em) := h1
    cases h1'
    have h2' : some ([], env) = some (a2, e1) := h2
    cases h2'
    exact PySem.W.callWith_K0 I.kIn S.fkp (fin (uk := []) (zs := []) (up := []) (vs := []) (Aft.refl ho) .nil (Aft.refl ho) .nil I .nil .nil rfl)
  | [], hk, e :: args, hs, ha, hnil, pk, f1, f2, f3 =>
    cases hk
    have h2' : some ([], em) = some (a2, e1) := h2
    cases h2'
    have hs2 := hs
    rw [List.all_cons, Bool.and_eq_true] at hs2
    refine PySem.W.callWith_K (h₀ := X.base) I.ok.mod.kin S.fkp (thn (ha.run pos pins s σ H (fun vs H1 => ∃ F1, Aft X σ (pureL es) H env F H1 e1 F1 ∧ AgsO X H1 σ vs a1) I ⟨env, F, a1, e1, ho, h1, fun vs H1 F1 x y => ⟨F1, x, y⟩⟩)
      fun us s1 ⟨vs, H1, I1, rv, F1, af, g⟩ => ⟨I1.kIn, ?_⟩) (star1 hs2.1) (by rw [back_any]; exact (allStar hs2.2).1)
    exact fin (uk := []) (zs := []) af g (Aft.refl af.ok) .nil I1 rv .nil rfl
  | kw :: kws, hk, [], _, ha, hnil, pk, f1, f2, f3 =>
    have hes := hnil rfl
    subst hes
    have h1' : some ([], env) = some (a1, em) := h1
    cases h1'
    refine PySem.W.callWith_KW0 (h₀ := X.base) I.ok.mod.kin S.fkp f1 (thn (pk.run pos pins s σ H (fun zs H2 => ∃ F2, Aft X σ (pureL ek) H env F H2 e1 F2 ∧ AgsO X H2 σ zs a2) I ⟨env, F, a2, e1, ho, h2, fun vs H1 F1 x y => ⟨F1, x, y⟩⟩) fun ws s2 ⟨zs, H2, I2, rz, F2, af2, g2⟩ => ⟨I2.kIn, ?_⟩) (by rw [f3]; rfl)
    rw [f2]
    exact fin (up := []) (vs := []) (Aft.refl ho) .nil af2 g2 I2 .nil rz (lenk g2 rz)
  | kw :: kws, hk, e :: args, hs, ha, hnil, pk, f1, f2, f3 =>
    have hs2 := hs
    rw [List.all_cons, Bool.and_eq_true] at hs2
    refine PySem.W.callWith_KW (h₀ := X.base) I.ok.mod.kin S.fkp f1 (thn (ha.run pos pins s σ H (fun vs H1 => ∃ F1, Aft X σ (pureL es) H env F H1 em F1 ∧ AgsO X H1 σ vs a1) I ⟨env, F, a1, em, ho, h1, fun vs H1 F1 x y => ⟨F1, x, y⟩⟩)
      fun us s1 ⟨vs, H1, I1, rv, F1, af, g⟩ => ?_) (by rw [f3, Bool.or_false, back_any]; exact (allStar hs).1) (star1 hs2.1)
    refine thn (pk.run pos pins s1 σ H1 (fun zs H2 => ∃ F2, Aft X σ (pureL ek) H1 em F1 H2 e1 F2 ∧ AgsO X H2 σ zs a2) I1 ⟨em, F1, a2, e1, af.ok, h2, fun vs H1 F1 x y => ⟨F1, x, y⟩⟩) fun ws s2 ⟨zs, H2, I2, rz, F2, af2, g2⟩ => ⟨I2.kIn, ?_⟩
    rw [f2]
    exact fin af g af2 g2 I2 rv rz (lenk g2 rz)
end
end EV

set_option Elab.async false
set_option linter.all false
set_option maxRecDepth 100000
set_option maxHeartbeats 1000000
/-! EVe: enumerate of a tuple, of a list or a tuple (own work, over the kit's rules). -/
namespace EV
open PySem PySem.Spec PyProof.Rows L2
/-- the new enumerate behind the walker at a -/
abbrev enObj (a : Addr) : Obj :=
  { cls := .type "enumerate"
    data := .fields #[.none, .bool false, .ref a, rawInt 0, .none, .none] }
theorem en_new {v : Value} {o : Obj} {P : Heap → Prop} (B : Begins v o P) :
    Meets (Builtin.«enumerate.__new__» ⟨[.type "enumerate", v], []⟩) fun _ R s => P s.heap ∧ R (.ok (.ret (.ref (s.heap.push o).objs.size))) { s with heap := (s.heap.push o).push (enObj s.heap.objs.size) } :=
  .of_wp fun prog w A R s h => by
    obtain ⟨hp, g, d, tk, os⟩ := s
    obtain ⟨p, h⟩ := h
    have sub := sub_enumerate
    have it : ∀ {A' : Around} {E Q : Value → Shared → Prop}, Q (.ref hp.objs.size) ⟨hp.push o, g, d, tk, os⟩ → wpAny (model prog w) A' (pyIter v) Q E ⟨hp, g, d, tk, os⟩ := fun q => B.iter prog w _ _ _ _ p q
    wp_walk using it
    refine wpAny_stack_any fun st => wpAny_pure ?_
    split
    · rename_i k _ _ _ _ _
      cases (k == Value.type "enumerate") <;> (wp_walk using it; exact ⟨_, rfl, h⟩)
    · wp_walk using it; exact ⟨_, rfl, h⟩
section
variable {prog : Program} {w : World} {A : Around} {E : Value → Shared → Prop} {s : Shared}
theorem en_call {t : Addr} {items : Array Value} {Q : Value → Shared → Prop} (hT : s.heap.IsTuple t items)
    (h : ∀ h', IsEnum h' (s.heap.objs.size + 1) s.heap.objs.size 0 .none → h'.IsTupleIter s.heap.objs.size t 0 → (∀ b o, s.heap.get? b = some o → h'.get? b = some o) → Q (.ref (s.heap.objs.size + 1)) { s with heap := h' }) :
    wpAny (model prog w) A (call (.type "enumerate") [.ref t]) Q E s := by
  refine callType_new F.called_enumerate (by decide) (F.typeCall_enumerate_1 _) (F.newCall_enumerate_1 _) (fun obj => F.args_object_init_2 obj _) F.entry_enumerate_new (en_new (begins_tuple t items)) ⟨hT, ?_⟩
  generalize ho : ({ cls := .type "tuple_iterator", data := .fields #[.ref t, .int 0 0] } : Obj) = o
  have of : o.isFreed = false := by rw [← ho]; rfl
  have hz : (s.heap.push o).objs.size = s.heap.objs.size + 1 := Heap.size_push ..
  show _ ∧ _
  rw [hz]
  have he : IsEnum ((s.heap.push o).push (enObj s.heap.objs.size)) (s.heap.objs.size + 1) s.heap.objs.size 0 .none := by
    have q := Heap.get?_push_size (s.heap.push o) (o := enObj s.heap.objs.size) rfl
    rw [hz] at q
    exact q
  have gi : ((s.heap.push o).push (enObj s.heap.objs.size)).get? s.heap.objs.size = some o := Heap.get?_push_of_some _ (Heap.get?_push_size _ of)
  exact ⟨⟨_, he, rfl⟩, h _ he ⟨o, gi, by rw [← ho], by rw [← ho]; rfl⟩ fun b o' x => Heap.get?_push_of_some _ (Heap.get?_push_of_some _ x)⟩
end
/-- the tuple at a as it stands at each turn, each item in a new pair -/
def IteT (K : PySem.W.Frag) (a : Addr) : It where
  go i H := ∃ (xs : List V) (x : V), SqT K H a xs ∧ xs[i]? = some x
  yld i H v H' := ∃ T x, v = .ref T ∧ H T = none ∧ H' = upd H T (.tup [.int (i : Nat), x]) ∧ ∀ xs, SqT K H a xs → xs[i]? = some x
  stop i H := ∃ xs : List V, SqT K H a xs ∧ xs.length ≤ i
theorem turn_enT {P : Program} {w : World} {K : PySem.W.Frag} {elts : List Expr} {kk : Nat} {tpos : Pos} (a e it : Addr) (hai : a ≠ it) :
    Turn P w K (.Tuple elts kk tpos) (IteT K a) [e, it] e fun i h => (∃ old, IsEnum h e it ((i : Nat) : Int) old) ∧ h.IsTupleIter it a i ∧ e ≠ it ∧ e ≠ a where
  mem := List.mem_cons_self
  obj := fun i h st b hb => by
    obtain ⟨⟨old, he⟩, ⟨o, ho, hc, hd⟩, _⟩ := st
    rcases (by simpa using hb : b = e ∨ b = it) with rfl | rfl
    · exact ⟨_, he, fun v q => nomatch q⟩
    · exact ⟨o, ho, fun v q => by rw [hd] at q; cases q⟩
  keep := fun i h h' st k => by
    obtain ⟨⟨old, he⟩, hi, hne⟩ := st
    exact ⟨⟨old, k e (by simp) _ he⟩, hi.at fun o q => k it (by simp) o q, hne⟩
  item := by
    rintro X rfl rfl rfl hc i pins s σ H E I hf ⟨⟨old, he⟩, hit, hne, hea⟩ ⟨xs, x, hq, hx⟩
    obtain ⟨its, rv, p, hz⟩ := I.tuple hq
    obtain ⟨u, hu, ru⟩ := rv.get hx
    have hel : e < s.heap.objs.size := Heap.lt_size he
    have hil : it < s.heap.objs.size := by obtain ⟨_, q, _⟩ := hit; exact Heap.lt_size q
    have hi : i < its.length := (List.getElem?_eq_some_iff.mp hu).1
    refine wpAny_pyNext_enum_itemD (Draws.tuple (A := X.A.in1) (I.ok.hd hc) it a hai its.toArray) he ⟨hit, p⟩ (by simpa using hi) hne (by simp [hne, hea]) fun y h' tk hy ho st' hT hsz hk => ?_
    obtain rfl : u = y := by
      have z : its.toArray[i]? = some u := by simpa using hu
      rw [z] at hy
      exact Option.some.inj hy
    refine ⟨_, rfl, wpAny_letOwnedTupleGo_enum (s := { s with heap := h', toks := tk + 1 }) ho fun h'' he' sb => ?_⟩
    generalize hS : s.heap.objs.size = S at *
    have hT2 := (sb.2 S (Nat.ne_of_gt hel)).trans hT
    have new : ObjOk X.prog X.w (upd H S (.tup [.int (i : Nat), x])) h'' S (.tup [.int (i : Nat), x]) := ⟨by show 2 ≤ sizeLine; decide, [.int i tk, u], .cons ⟨_, rfl⟩ (.cons ru .nil), _, hT2, rfl, _, rfl⟩
    have I1 : Inv X pins σ (upd H S (.tup [.int (i : Nat), x])) { s with heap := h'', toks := tk + 1 } := by
      refine I.turnedNew (ch := [e, it]) (fun b ob hb q => ?_) hf (Nat.le_of_eq hS) new
      have nb : b ≠ e ∧ b ≠ it := by simpa using hb
      exact (sb.2 b nb.1).trans (hk b ob nb.1 nb.2 q)
    have e1 : ((i + 1 : Nat) : Int) = (i : Int) + 1 := by omega
    refine ⟨.ref S, _, I1, rfl, ⟨S, x, rfl, I.hok.fresh (Nat.le_of_eq hS), rfl, fun ys hy => by rw [I.tuple_inj hy hq]; exact hx⟩, ⟨⟨u, by rw [e1]; exact he'⟩, st'.1.at fun o q => (sb.2 it (Ne.symm hne)).trans q, hne, hea⟩, fun b hb => ?_⟩
    have hb' : b < S := by
      rcases (by simpa using hb : b = e ∨ b = it) with rfl | rfl
      · exact hel
      · exact hil
    rw [upd_ne (Nat.ne_of_lt hb')]
    exact (hf b hb).1
  done := by
    rintro X rfl rfl rfl hc i pins s σ H E I hf ⟨⟨old, he⟩, hit, hne, hea⟩ ⟨xs, hq, hx⟩
    obtain ⟨its, rv, p, hz⟩ := I.tuple hq
    have hl := rv.length
    have hT : s.TypeIs (.ref e) "enumerate" := ⟨_, he, rfl⟩
    unfold pyNext
    refine wpAny_bind (wpAny_attempt (wpAny_callSpecial?_slot (name := Str.ofString "__next__") hT F.slot_enumerate_next (wpAny_call_entry F.slot_enumerate_next hT F.entry_enumerate_next ?_ (F.args_enumerate_next_1 _))))
    show wpAny _ _ (field (.ref e) 2 >>= _) _ _ _
    refine wpAny_bind (wpAny_field he rfl (x := .ref it) rfl ?_)
    refine wpAny_bind (RZ.nextOf_tuple_end (show X.A.in1.handled = none from I.ok.hd hc) hit p (by simp; omega) fun h' z eb hx' => ?_)
    obtain ⟨o, ho, hc'⟩ := hx'
    refine wpAny_bind (wpAny_isInstance (T := "StopIteration") (b := true) ⟨o, ho, hc'⟩ isSubtype_stop ?_)
    exact wpAny_pure ⟨rfl, I.turnedL (t' := s.toks) (ch := [e, it]) (fun b o hb q => eb b o (fun z => hb (by simp [z])) q) hf⟩
  self := fun A i s Q E st h => by
    obtain ⟨⟨_, he⟩, _⟩ := st
    exact wpAny_pyIter_enum he h
def iEnA (K : PySem.W.Frag) (ta : TA) : TI := fun σ H R => ta σ H fun vs H1 => ∃ a xs, vs = [.ref a] ∧ ((SqL K H1 a xs ∧ R (Ite K a) H1) ∨ (SqT K H1 a xs ∧ R (IteT K a) H1))
theorem pi_enA {X : Cx} {e : Expr} {ta : TA} {p pos tpos : Pos} {elts : List Expr} {kk : Nat} (hg : Gl X "enumerate") (hm : X.mg "enumerate" = none) (ha : PA X [e] ta) (hs : starEach [e] X.env = [(false, eval e X.env)]) :
    PI X (.Tuple elts kk tpos) (.Call (.Name "enumerate" p) [e] [] pos) (iEnA X.K ta) := by
  refine ⟨?_⟩
  intro pins s σ H R I h
  have go := ha.run pos pins s σ H _ I h
  refine Call_ (ld_blt I hg hm boot_enumerate (PyProof.Rows.callWith_type1 (thn go fun us s1 ⟨vs, H1, I1, r1, q1⟩ => ?_) hs rfl))
  obtain ⟨a, xs, rfl, q1⟩ := q1
  rcases r1 with _ | ⟨r, rr⟩
  rcases rr with _ | _
  cases r
  have fr : ∀ b, b ∈ [s1.heap.objs.size + 1, s1.heap.objs.size] → FpOk X pins H1 b := fun b hb => by
    have hle : s1.heap.objs.size ≤ b := by
      rcases (by simpa using hb : b = s1.heap.objs.size + 1 ∨ b = s1.heap.objs.size) with z | z <;> rw [z]
      · exact Nat.le_succ _
      · exact Nat.le_refl _
    exact I1.fpOk hle (I1.hok.fresh hle)
  rcases q1 with ⟨hq, q⟩ | ⟨hq, q⟩
  · obtain ⟨its, rv, p', hz⟩ := I1.list hq
    refine call_enumerate_list p'.isList fun h' he hit hsz hk => wpAny_pyIter_enum he ?_
    have I2 : Inv X pins σ H1 { s1 with heap := h' } := I1.kept (t' := s1.toks) hk
    exact ⟨s1.heap.objs.size + 1, [s1.heap.objs.size + 1, s1.heap.objs.size], _, _, H1, rfl, I2, turn_enum a (s1.heap.objs.size + 1) s1.heap.objs.size, ⟨⟨.none, he⟩, hit, Nat.succ_ne_self _⟩, fr, q⟩
  · obtain ⟨its, rv, p', hz⟩ := I1.tuple hq
    obtain ⟨o1, ho1, _⟩ := id p'
    have hlt : a < s1.heap.objs.size := Heap.lt_size ho1
    refine en_call (show s1.heap.IsTuple a its.toArray from p') fun h' he hit hk => wpAny_pyIter_enum he ?_
    have I2 : Inv X pins σ H1 { s1 with heap := h' } := I1.kept (t' := s1.toks) hk
    exact ⟨s1.heap.objs.size + 1, [s1.heap.objs.size + 1, s1.heap.objs.size], _, _, H1, rfl, I2, turn_enT a (s1.heap.objs.size + 1) s1.heap.objs.size (Nat.ne_of_lt hlt), ⟨⟨.none, he⟩, hit, Nat.succ_ne_self _, Nat.ne_of_gt (Nat.lt_succ_of_lt hlt)⟩, fr, q⟩
end EV

set_option Elab.async false
set_option linter.all false
set_option maxRecDepth 100000
set_option maxHeartbeats 1000000
/-! EV26: targets, what is walked (own work, over the hand layer's rules). -/
namespace EV
open PySem PySem.Spec PyProof.Rows L2
section
variable {X : Cx} {C : Cfg} {pos : Pos} {σ : L2.St}
/-- an item on its way to the target t -/
def RlI (t : CT) (X : Cx) (H : Hp) (x : V) (d : D) : Prop := match t with
  | .nm _ => Rs X H x d
  | .tup _ => (∀ ds, d = .tuple ds → ∃ a vs, x = .ref a ∧ SqT X.K H a vs ∧ RsA X H vs ds) ∧ ∀ ds, d = .list ds → ∃ a vs, x = .ref a ∧ SqL X.K H a vs ∧ RsA X H vs ds
theorem RlI.of {t : CT} {H : Hp} {x : V} {d : D} (h : Rs X H x d) : RlI t X H x d := by
  cases t with
  | nm i => exact h
  | tup ts =>
    refine ⟨?_, ?_⟩
    · rintro ds rfl
      cases h with
      | tup h1 h2 => exact ⟨_, _, rfl, h1.sq, h2⟩
    · rintro ds rfl
      cases h with
      | lst h1 h2 => exact ⟨_, _, rfl, h1.sq, h2⟩
theorem PG.or {tg : Expr} {t t' : TG} (h : PG X tg t) (g : PG X tg t') : PG X tg (fun v σ H Q => t v σ H Q ∨ t' v σ H Q) := ⟨fun pins s σ H v u Q I r hw => hw.elim (h.run pins s σ H v u Q I r) (g.run pins s σ H v u Q I r)⟩
/-- behind a store -/
structure Sto (X : Cx) (σ : L2.St) (H : Hp) (env' : Ev) (F : List Addr) (ix : List Nat) (σ' : L2.St) (F' : List Addr) : Prop where
  ok : EnvOk X.prog X.w X.K H σ' env' F'
  sub : ∀ a ∈ F', a ∈ F
  out : ∀ i, i ∉ ix → σ'[i]? = σ[i]?
theorem Sto.trans {σ1 σ2 : L2.St} {H : Hp} {e1 e2 : Ev} {F F1 F2 : List Addr} {ix jx kx : List Nat} (a : Sto X σ H e1 F ix σ1 F1) (b : Sto X σ1 H e2 F1 jx σ2 F2) (h1 : ∀ i ∈ ix, i ∈ kx) (h2 : ∀ i ∈ jx, i ∈ kx) : Sto X σ H e2 F kx σ2 F2 :=
  ⟨b.ok, fun x hx => a.sub x (b.sub x hx), fun i hi => (b.out i fun z => hi (h2 i z)).trans (a.out i fun z => hi (h1 i z))⟩
def gT (X : Cx) (t : CT) : TG := fun v σ H Q => ∃ env F d env', EnvOk X.prog X.w X.K H σ env F ∧ RlI t X H v d ∧ setT t d env = some env' ∧ ∀ σ' F', Sto X σ H env' F (tgtIx t) σ' F' → Q σ' H
def gTs (X : Cx) (ts : CTs) : TGs := fun vs σ H Q => ∃ env F ds env', EnvOk X.prog X.w X.K H σ env F ∧ RsA X H vs ds ∧ setTs ts ds env = some env' ∧ ∀ σ' F', Sto X σ H env' F (tgtIx.tgtsIx ts) σ' F' → Q σ' H
theorem PG.of {tg : Expr} {t t' : TG} (h : PG X tg t) (hi : ∀ v σ H Q, t' v σ H Q → t v σ H Q) : PG X tg t' := ⟨fun pins s σ H v u Q I r hw => h.run pins s σ H v u Q I r (hi v σ H Q hw)⟩
theorem PGs.of {tg : List Expr} {t t' : TGs} (h : PGs X tg t) (hi : ∀ v σ H Q, t' v σ H Q → t v σ H Q) : PGs X tg t' := ⟨fun pins s σ H v u Q I r hw => h.run pins s σ H v u Q I r (hi v σ H Q hw)⟩
/-- a local gets another value -/
theorem sto_set {H : Hp} {env : Ev} {F : List Addr} {v : V} {d : D} {i : Nat} (ok : EnvOk X.prog X.w X.K H σ env F) (h : Rs X H v d) : ∃ F', Sto X σ H (env.set i (some (.val d))) F [i] (σ.set i (some v)) F' := by
  obtain ⟨F', r1, r2⟩ := ok.put i (x' := some v) (sl' := some (.val d)) (G' := []) ⟨rfl, v, rfl, h⟩ (fun a h => by simp at h)
  exact ⟨F', r1, fun a ha => (r2 a ha).elim (fun z => by simp at z) id, fun j hj => List.getElem?_set_ne fun z => hj (by simp [z])⟩
theorem pgNm {i : Nat} {x : Str} (hN : X.N.Nodup) (hi : X.N[i]? = some x) (hx : Loc X.env.scope x) (hf : X.fn x = true ∨ X.env.scope.names.lookup x = some .local) : PG X (.Name x pos) (gT X (.nm i)) :=
  PG.of (pg_name hN hi hx hf) fun v σ H Q ⟨env, F, d, env', ho, hv, he, q⟩ => by
    have he : some (env.set i (some (.val d))) = some env' := he
    cases he
    obtain ⟨F', st⟩ := sto_set (i := i) ho (show Rs X H v d from hv)
    exact q _ F' (by simpa [tgtIx] using st)
theorem pgNil : PGs X [] (gTs X .nil) := PGs.of pgs_nil fun vs σ H Q ⟨env, F, ds, env', ho, hv, he, q⟩ => by
  match ds, he with
  | [], he =>
    cases hv
    have he : some env = some env' := he
    cases he
    exact ⟨rfl, q σ F ⟨ho, fun _ z => z, fun _ _ => rfl⟩⟩
theorem pgCons {e : Expr} {es : List Expr} {t : CT} {ts : CTs} (hs : notStar e = true) (h1 : PG X e (gT X t)) (h2 : PGs X es (gTs X ts)) : PGs X (e :: es) (gTs X (.cons t ts)) := by
  refine PGs.of (pgs_cons h1 h2 (by cases e <;> first | rfl | cases hs)) fun vs σ H Q ⟨env, F, ds, env', ho, hv, he, q⟩ => ?_
  match ds, he with
  | d :: ds, he =>
    obtain ⟨e1, g1, g2⟩ := Option.bind_eq_some_iff.mp (show ((setT t d env).bind fun e => setTs ts ds e) = some env' from he)
    cases hv with
    | cons a b =>
      refine ⟨_, _, rfl, env, F, d, e1, ho, RlI.of a, g1, fun σ1 F1 s1 => ⟨e1, F1, ds, env', s1.ok, b, g2, fun σ2 F2 s2 => q σ2 F2 (s1.trans s2 (fun i hi => by simp [tgtIx.tgtsIx, hi]) fun i hi => by simp [tgtIx.tgtsIx, hi])⟩⟩
theorem each_len : ∀ {es : List Expr} {env : Env}, (assignEach es env).length = es.length
  | [], _ => rfl
  | e :: es, env => by
    cases e <;> (simp only [assignEach, List.length_cons]; rw [each_len])
theorem each_star : ∀ {es : List Expr} {env : Env}, es.all notStar = true → (assignEach es env).findIdx? (·.1) = none
  | [], _, _ => rfl
  | e :: es, env, h => by
    rw [List.all_cons, Bool.and_eq_true] at h
    have ih := each_star (env := env) h.2
    have : assignEach (e :: es) env = (false, assign e env) :: assignEach es env := by cases e <;> first | rfl | cases h.1
    rw [this, List.findIdx?_cons, ih]
    rfl
/-- (a, b, ..) = x -/
theorem pgTup {es : List Expr} {ts : CTs} {k : Nat} (hc : X.calm = true) (hs : es.all notStar = true) (hl : ∀ ds env env', setTs ts ds env = some env' → ds.length = es.length) (h : PGs X es (gTs X ts)) : PG X (.Tuple es k pos) (gT X (.tup ts)) :=
  PG.of (PG.or (pg_tup (n := es.length) hc h each_len (each_star hs)) (pg_unl (n := es.length) hc h each_len (each_star hs))) fun v σ H Q ⟨env, F, d, env', ho, hv, he, q⟩ => by
    match d, he with
    | .tuple ds, he =>
      obtain ⟨a, vs, rfl, sq, rl⟩ := hv.1 ds rfl
      have he : setTs ts ds env = some env' := he
      exact .inl ⟨a, vs, rfl, sq, by rw [rl.length]; exact hl ds env env' he, env, F, ds, env', ho, rl, he, fun σ' F' st => q σ' F' (by simpa [tgtIx] using st)⟩
    | .list ds, he =>
      obtain ⟨a, vs, rfl, sq, rl⟩ := hv.2 ds rfl
      have he : setTs ts ds env = some env' := he
      exact .inr ⟨a, vs, rfl, sq, by rw [rl.length]; exact hl ds env env' he, env, F, ds, env', ho, rl, he, fun σ' F' st => q σ' F' (by simpa [tgtIx] using st)⟩
mutual
/-- a target and its small form -/
inductive TgS (X : Cx) : Expr → CT → Prop
  | nm {x : Str} {p : Pos} {i : Nat} : X.N[i]? = some x → Loc X.env.scope x → (X.fn x = true ∨ X.env.scope.names.lookup x = some .local) → TgS X (.Name x p) (.nm i)
  | tup {es : List Expr} {k : Nat} {p : Pos} {ts : CTs} : TgsS X es ts → TgS X (.Tuple es k p) (.tup ts)
inductive TgsS (X : Cx) : List Expr → CTs → Prop
  | nil : TgsS X [] .nil
  | cons {e : Expr} {es : List Expr} {t : CT} {ts : CTs} : notStar e = true → TgS X e t → TgsS X es ts → TgsS X (e :: es) (.cons t ts)
end
theorem TgsS.len : ∀ {es : List Expr} {ts : CTs}, TgsS X es ts → es.all notStar = true ∧ ∀ ds env env', setTs ts ds env = some env' → ds.length = es.length
  | _, _, .nil => ⟨rfl, fun ds env env' h => by
    cases ds with
    | nil => rfl
    | cons d ds => cases h⟩
  | _, _, @TgsS.cons _ e es t ts h1 _ h3 => by
    obtain ⟨i1, i2⟩ := TgsS.len h3
    refine ⟨by rw [List.all_cons, h1, i1]; rfl, fun ds env env' h => ?_⟩
    cases ds with
    | nil => cases h
    | cons d ds =>
      obtain ⟨e1, _, g2⟩ := Option.bind_eq_some_iff.mp (show ((setT t d env).bind fun e => setTs ts ds e) = some env' from h)
      rw [List.length_cons, List.length_cons, i2 ds e1 env' g2]
mutual
theorem TgS.pg (hN : X.N.Nodup) (hc : X.calm = true) : ∀ {e : Expr} {t : CT}, TgS X e t → PG X e (gT X t)
  | _, _, .nm h1 h2 h3 => pgNm hN h1 h2 h3
  | _, _, .tup h => pgTup hc h.len.1 h.len.2 (TgsS.pg hN hc h)
theorem TgsS.pg (hN : X.N.Nodup) (hc : X.calm = true) : ∀ {es : List Expr} {ts : CTs}, TgsS X es ts → PGs X es (gTs X ts)
  | _, _, .nil => pgNil
  | _, _, .cons h1 h2 h3 => pgCons h1 (TgS.pg hN hc h2) (TgsS.pg hN hc h3)
end
/-! ### what is walked -/
def WalkD (t : CT) (X : Cx) (J : It) (H : Hp) (xs : List D) : Prop := ∀ H1, Stb H H1 → (∀ i, i < xs.length → J.go i H1) ∧ J.stop xs.length H1 ∧ ∀ i x H2 d, xs[i]? = some d → J.yld i H1 x H2 → Same H1 H2 ∧ RlI t X H2 x d
def TIt (t : CT) (X : Cx) (C : Cfg) (ci : CI) : TI := fun σ H R => ∃ env F xs env', EnvOk X.prog X.w X.K H σ env F ∧ evI C ci env = some (xs, env') ∧ ∀ J H' F', Aft X σ (pureI ci) H env F H' env' F' → WalkD t X J H' xs → R J H'
theorem PI.of {tg e : Expr} {t t' : TI} (h : PI X tg e t) (hi : ∀ σ H Q, t' σ H Q → t σ H Q) : PI X tg e t' := ⟨fun pins s σ H Q I hw => h.run pins s σ H Q I (hi σ H Q hw)⟩
theorem walk_list {t : CT} {H : Hp} {a : Addr} {vs : List V} {ds : List D} (h1 : LR true X.K H a vs) (h2 : RsA X H vs ds) : WalkD t X (Itl X.K a) H ds := by
  intro H1 s
  have q := h1.stb s
  have r := RlA.stb s _ h2
  refine ⟨fun i hi => ?_, ⟨vs, q.sq, Nat.le_of_eq r.length⟩, fun i x H2 d hd hy => ?_⟩
  · obtain ⟨v, e, _⟩ := r.get (List.getElem?_eq_getElem hi)
    exact ⟨vs, v, q.sq, e⟩
  · obtain ⟨rfl, hx⟩ := hy
    obtain ⟨v, e, rl⟩ := r.get hd
    have := hx vs q.sq
    rw [e] at this
    cases this
    exact ⟨Same.refl _, RlI.of rl⟩
theorem walk_tup {t : CT} {H : Hp} {a : Addr} {vs : List V} {ds : List D} (h1 : TR X.K H a vs) (h2 : RsA X H vs ds) : WalkD t X (Itt X.K a) H ds := by
  intro H1 s
  have q := h1.stb s
  have r := RlA.stb s _ h2
  refine ⟨fun i hi => ?_, ⟨vs, q.sq, Nat.le_of_eq r.length⟩, fun i x H2 d hd hy => ?_⟩
  · obtain ⟨v, e, _⟩ := r.get (List.getElem?_eq_getElem hi)
    exact ⟨vs, v, q.sq, e⟩
  · obtain ⟨rfl, hx⟩ := hy
    obtain ⟨v, e, rl⟩ := r.get hd
    have := hx vs q.sq
    rw [e] at this
    cases this
    exact ⟨Same.refl _, RlI.of rl⟩
theorem rng_get {lo hi : Int} {i : Nat} (h : i < (rngL lo hi).length) : (rngL lo hi)[i]? = some (.int (lo + (i : Nat))) := by
  unfold rngL at h ⊢
  rw [List.length_map, List.length_range] at h
  rw [List.getElem?_map, List.getElem?_range h]
  rfl
theorem rng_len {lo hi : Int} : (rngL lo hi).length = (hi - lo).toNat := by unfold rngL; rw [List.length_map, List.length_range]
theorem walk_rng {t : CT} {H : Hp} {lo hi : Int} : WalkD t X (Itr lo (hi - lo).toNat) H (rngL lo hi) := by
  intro H1 s
  refine ⟨fun i hi => by rw [rng_len] at hi; exact hi, Nat.le_of_eq rng_len.symm, fun i x H2 d hd hy => ?_⟩
  obtain ⟨rfl, rfl⟩ := hy
  have hi := (List.getElem?_eq_some_iff.mp hd).1
  rw [rng_get hi] at hd
  cases hd
  exact ⟨Same.refl _, RlI.of (.int _)⟩
theorem enum_get : ∀ (ds : List D) (n i : Nat), (enumL n ds)[i]? = (ds[i]?).map fun d => PyData.tuple [.int ((n + i : Nat) : Int), d]
  | [], n, i => rfl
  | d :: ds, n, 0 => rfl
  | d :: ds, n, i + 1 => by
    show (enumL (n + 1) ds)[i]? = _
    rw [enum_get ds (n + 1) i]
    have : n + 1 + i = n + (i + 1) := by omega
    rw [this]
    rfl
theorem enum_len : ∀ (ds : List D) (n : Nat), (enumL n ds).length = ds.length
  | [], _ => rfl
  | d :: ds, n => by show (enumL (n + 1) ds).length + 1 = _; rw [enum_len]; rfl
theorem zip_get : ∀ (as bs : List D) (i : Nat) (d : D), (zipL as bs)[i]? = some d → ∃ a b, as[i]? = some a ∧ bs[i]? = some b ∧ d = .tuple [a, b]
  | [], _, _, _, h => by simp [zipL] at h
  | _ :: _, [], _, _, h => by simp [zipL] at h
  | a :: as, b :: bs, 0, d, h => by
    have h : some (PyData.tuple [a, b]) = some d := h
    cases h
    exact ⟨a, b, rfl, rfl, rfl⟩
  | a :: as, b :: bs, i + 1, d, h => zip_get as bs i d h
theorem zip_len : ∀ (as bs : List D), (zipL as bs).length = min as.length bs.length
  | [], _ => by simp [zipL]
  | _ :: _, [] => by simp [zipL]
  | a :: as, b :: bs => by show (zipL as bs).length + 1 = _; rw [zip_len]; simp
theorem pair_rl {t : CT} {H : Hp} {T : Addr} {x y : V} {a b : D} (hT : H T = none) (h1 : Rs X H x a) (h2 : Rs X H y b) (ht : ∃ ts, t = .tup ts) : Same H (upd H T (.tup [x, y])) ∧ RlI t X (upd H T (.tup [x, y])) (.ref T) (.tuple [a, b]) := by
  have s := same_new (o := HO.tup [x, y]) hT
  refine ⟨s, ?_⟩
  obtain ⟨ts, rfl⟩ := ht
  refine ⟨fun ds e => ?_, fun ds e => by cases e⟩
  cases e
  exact ⟨T, [x, y], rfl, SqT.of upd_same, .cons (Rl.same s _ h1) (.cons (Rl.same s _ h2) .nil)⟩
theorem walk_enum {t : CT} {H : Hp} {a : Addr} {vs : List V} {ds : List D} (ht : ∃ ts, t = .tup ts) (h1 : LR true X.K H a vs) (h2 : RsA X H vs ds) : WalkD t X (Ite X.K a) H (enumL 0 ds) := by
  intro H1 s
  have q := h1.stb s
  have r := RlA.stb s _ h2
  refine ⟨fun i hi => ?_, ⟨vs, q.sq, by rw [enum_len]; exact Nat.le_of_eq r.length⟩, fun i x H2 d hd hy => ?_⟩
  · rw [enum_len] at hi
    obtain ⟨v, e, _⟩ := r.get (List.getElem?_eq_getElem hi)
    exact ⟨vs, v, q.sq, e⟩
  · obtain ⟨T, x', rfl, hT, rfl, hx⟩ := hy
    rw [enum_get] at hd
    obtain ⟨d', e1, rfl⟩ := Option.map_eq_some_iff.mp hd
    obtain ⟨v, e, rl⟩ := r.get e1
    have := hx vs q.sq
    rw [e] at this
    cases this
    have e0 : ((0 + i : Nat) : Int) = (i : Int) := by omega
    rw [e0]
    exact pair_rl hT (.int _) rl ht
theorem walk_zip {t : CT} {H : Hp} {a b : Addr} {vs ws : List V} {ds es : List D} (ht : ∃ ts, t = .tup ts) (h1 : LR true X.K H a vs) (h2 : RsA X H vs ds) (h3 : LR true X.K H b ws) (h4 : RsA X H ws es) : WalkD t X (Itz X.K a b) H (zipL ds es) := by
  intro H1 s
  have q := h1.stb s
  have r := RlA.stb s _ h2
  have q' := h3.stb s
  have r' := RlA.stb s _ h4
  refine ⟨fun i hi => ?_, ⟨vs, ws, q.sq, q'.sq, ?_⟩, fun i x H2 d hd hy => ?_⟩
  · rw [zip_len] at hi
    obtain ⟨v, e, _⟩ := r.get (List.getElem?_eq_getElem (show i < ds.length by omega))
    obtain ⟨w', e', _⟩ := r'.get (List.getElem?_eq_getElem (show i < es.length by omega))
    exact ⟨vs, ws, v, w', q.sq, q'.sq, e, e'⟩
  · rw [zip_len, r.length, r'.length]; omega
  · obtain ⟨T, x', y', rfl, hT, rfl, hx, hy⟩ := hy
    obtain ⟨da, db, e1, e2, rfl⟩ := zip_get ds es i d hd
    obtain ⟨v, e, rl⟩ := r.get e1
    obtain ⟨w', e', rl'⟩ := r'.get e2
    have z := hx vs q.sq
    rw [e] at z
    cases z
    have z := hy ws q'.sq
    rw [e'] at z
    cases z
    exact pair_rl hT rl rl' ht
theorem walk_zipT {t : CT} {H : Hp} {a b : Addr} {vs ws : List V} {ds es : List D} (ht : ∃ ts, t = .tup ts) (h1 : TR X.K H a vs) (h2 : RsA X H vs ds) (h3 : TR X.K H b ws) (h4 : RsA X H ws es) : WalkD t X (RZ.ItzT X.K a b) H (zipL ds es) := by
  intro H1 s
  have q := h1.stb s
  have r := RlA.stb s _ h2
  have q' := h3.stb s
  have r' := RlA.stb s _ h4
  refine ⟨fun i hi => ?_, ⟨vs, ws, q.sq, q'.sq, ?_⟩, fun i x H2 d hd hy => ?_⟩
  · rw [zip_len] at hi
    obtain ⟨v, e, _⟩ := r.get (List.getElem?_eq_getElem (show i < ds.length by omega))
    obtain ⟨w', e', _⟩ := r'.get (List.getElem?_eq_getElem (show i < es.length by omega))
    exact ⟨vs, ws, v, w', q.sq, q'.sq, e, e'⟩
  · rw [zip_len, r.length, r'.length]; omega
  · obtain ⟨T, x', y', rfl, hT, rfl, hx, hy⟩ := hy
    obtain ⟨da, db, e1, e2, rfl⟩ := zip_get ds es i d hd
    obtain ⟨v, e, rl⟩ := r.get e1
    obtain ⟨w', e', rl'⟩ := r'.get e2
    have z := hx vs q.sq
    rw [e] at z
    cases z
    have z := hy ws q'.sq
    rw [e'] at z
    cases z
    exact pair_rl hT rl rl' ht
/-- a value that is walked: a list, a tuple -/
theorem piOf {tg a : Expr} {t : CT} {a' : CE} (ha : PE X a (TEv X C a')) : PI X tg a (TIt t X C (.of a')) := by
  refine ⟨fun pins s σ H R I ⟨env, F, xs, env', ho, he, q⟩ => ?_⟩
  simp only [evI] at he
  split at he
  · cases he
  · rename_i r e1 ea
    obtain ⟨d, hk, hx⟩ := Option.bind_eq_some_iff.mp he
    obtain ⟨xs', hx, e⟩ := Option.map_eq_some_iff.mp hx
    cases e
    have post : ∀ (R' : V → Hp → Prop), (∀ v H1 F1, Aft X σ (pureE a') H env F H1 env' F1 → Rs X H1 v d → R' v H1) → TOp X C a' σ H R' := fun R' h => ⟨env, F, r, env', ho, ea, fun v H1 F1 G1 x y _ => h v H1 F1 x (y.2.kept hk)⟩
    match d, hx with
    | .list ds, hx =>
      cases hx
      refine (pi_list (tg := tg) ha.op).run pins s σ H R I (post _ fun v H1 F1 af rl => ?_)
      cases rl with
      | @lst a vs _ h1 h2 => exact ⟨a, rfl, ⟨vs, h1.sq⟩, q _ H1 F1 af (walk_list h1 h2)⟩
    | .tuple ds, hx =>
      cases hx
      refine (pi_tup (tg := tg) ha.op).run pins s σ H R I (post _ fun v H1 F1 af rl => ?_)
      cases rl with
      | @tup a vs _ h1 h2 => exact ⟨a, rfl, ⟨vs, h1.sq⟩, q _ H1 F1 af (walk_tup h1 h2)⟩
theorem evI_blt {b : Blt} {es : CL} {env env' : Ev} {xs : List D} (h : evI C (.blt b es) env = some (xs, env')) : ∃ rs ds, evL C es env = some (rs, env') ∧ keeps rs = some ds ∧ iterB b ds = some xs := by
  simp only [evI] at h
  split at h
  · cases h
  · rename_i rs e1 el
    obtain ⟨ds, h1, h2⟩ := Option.bind_eq_some_iff.mp h
    obtain ⟨xs', h3, h4⟩ := Option.map_eq_some_iff.mp h2
    cases h4
    exact ⟨rs, ds, el, h1, h3⟩
def clLen : CL → Nat
  | .nil => 0
  | .cons _ es => clLen es + 1
theorem evL_len : ∀ {es : CL} {env e1 : Ev} {rs : List RV}, evL C es env = some (rs, e1) → rs.length = clLen es
  | .nil, env, e1, rs, h => by
    have h : some ([], env) = some (rs, e1) := h
    cases h; rfl
  | .cons e es, env, e1, rs, h => by
    obtain ⟨r, e2, rs', _, h2, rfl⟩ := evL_cons h
    rw [List.length_cons, evL_len h2]
    rfl
theorem keeps_len : ∀ {rs : List RV} {ds : List D}, keeps rs = some ds → ds.length = rs.length
  | [], ds, h => by cases h; rfl
  | r :: rs, ds, h => by
    obtain ⟨d, ds', _, h2, rfl⟩ := keeps_some h
    rw [List.length_cons, List.length_cons, keeps_len h2]
theorem piRng {tg a : Expr} {p : Pos} {t : CT} {args : List Expr} {es : CL} (hg : Gl X "range") (hm : X.mg "range" = none) (hs : (a :: args).all notStar = true) (hl : (a :: args).length = 1 ∨ (a :: args).length = 2) (hcl : clLen es = (a :: args).length) (ha : PA X (a :: args) (TLo X C es)) :
    PI X tg (.Call (.Name "range" p) (a :: args) [] pos) (TIt t X C (.blt .range es)) := by
  have pre : ∀ {σ : L2.St} {H : Hp} {R : It → Hp → Prop}, TIt t X C (.blt .range es) σ H R → TLo X C es σ H fun vs H1 => ((a :: args).length = 1 ∧ ∃ n : Int, vs = [.int n] ∧ rngOk 0 n = true ∧ R (Itr 0 n.toNat) H1) ∨ ((a :: args).length = 2 ∧ ∃ i n : Int, vs = [.int i, .int n] ∧ rngOk i n = true ∧ R (Itr i (n - i).toNat) H1) := by
    intro σ H R ⟨env, F, xs, env', ho, he, q⟩
    obtain ⟨rs, ds, h1, h2, h3⟩ := evI_blt he
    have hlen : ds.length = (a :: args).length := by rw [keeps_len h2, evL_len h1, hcl]
    refine ⟨env, F, rs, env', ho, tlo_of h1 (keeps_ok _ h2), fun vs H1 F1 G1 a1 o1 _ => ?_⟩
    rcases rng_some h3 with ⟨n, rfl, ok, rfl⟩ | ⟨i, n, rfl, ok, rfl⟩
    · have w := walk_rng (X := X) (t := t) (H := H1) (lo := 0) (hi := n)
      have e : n - 0 = n := by omega
      rw [e] at w
      exact .inl ⟨hlen.symm, n, one_int o1.2 h2, ok, q _ H1 F1 a1 w⟩
    · exact .inr ⟨hlen.symm, i, n, two_int o1.2 h2, ok, q _ H1 F1 a1 walk_rng⟩
  have hs' := hs
  rw [List.all_cons, Bool.and_eq_true] at hs'
  match args, hl, hs', hs, ha with
  | [], _, hs', hs, ha =>
    refine PI.of (pi_range1 hg hm ha (star1 hs'.1)) fun σ H R h => ?_
    obtain ⟨env, F, rs, e1, ho, he, q⟩ := pre h
    refine ⟨env, F, rs, e1, ho, he, fun vs H1 F1 G1 a1 o1 p1 => ?_⟩
    rcases q vs H1 F1 G1 a1 o1 p1 with ⟨hz, n, rfl, ok, r⟩ | ⟨hz, i, n, rfl, ok, r⟩
    · obtain ⟨_, _, h3, h4, _⟩ := rngOk_of ok
      exact ⟨n, rfl, h3, h4, r⟩
    · cases hz
  | [b], _, hs', hs, ha =>
    have hb : notStar b = true := by
      have := hs'.2
      simpa using this
    refine PI.of (pi_range2 hg hm ha (by rw [star1 hs'.1, star1 hb]; rfl) (star1 hb)) fun σ H R h => ?_
    obtain ⟨env, F, rs, e1, ho, he, q⟩ := pre h
    refine ⟨env, F, rs, e1, ho, he, fun vs H1 F1 G1 a1 o1 p1 => ?_⟩
    rcases q vs H1 F1 G1 a1 o1 p1 with ⟨hz, n, rfl, ok, r⟩ | ⟨hz, i, n, rfl, ok, r⟩
    · cases hz
    · obtain ⟨h1, h2, h3, h4, _⟩ := rngOk_of ok
      exact ⟨i, n, rfl, ⟨h1, h2, h3, h4⟩, r⟩
  | _ :: _ :: _, hl, _, _, _ => exact absurd hl (by simp)
theorem one_arg' {H : Hp} {F : List Addr} {vs : List V} {rs : List RV} {d : D} (o : OpsOk X H F vs rs) (k : keeps rs = some [d]) : ∃ v, vs = [v] ∧ Rs X H v d := rs1 (o.kept k)
theorem enum_some {ds xs : List D} (h : iterB .enumerate ds = some xs) : ∃ l, (ds = [.list l] ∨ ds = [.tuple l]) ∧ xs = enumL 0 l := by
  unfold iterB at h
  split at h
  · rename_i h3; cases h3
  · rename_i h3; cases h3
  · cases h; exact ⟨_, .inl rfl, rfl⟩
  · cases h; exact ⟨_, .inr rfl, rfl⟩
  · rename_i h3; cases h3
  · rename_i h3; cases h3
  · cases h
theorem zip_some {ds xs : List D} (h : iterB .zip ds = some xs) : ∃ l m, (ds = [.list l, .list m] ∨ ds = [.tuple l, .tuple m]) ∧ xs = zipL l m := by
  unfold iterB at h
  split at h
  · rename_i h3; cases h3
  · rename_i h3; cases h3
  · rename_i h3; cases h3
  · rename_i h3; cases h3
  · cases h; exact ⟨_, _, .inl rfl, rfl⟩
  · cases h; exact ⟨_, _, .inr rfl, rfl⟩
  · cases h
theorem walk_enumT {t : CT} {H : Hp} {a : Addr} {vs : List V} {ds : List D} (ht : ∃ ts, t = .tup ts) (h1 : TR X.K H a vs) (h2 : RsA X H vs ds) : WalkD t X (IteT X.K a) H (enumL 0 ds) := by
  intro H1 s
  have q := h1.stb s
  have r := RlA.stb s _ h2
  refine ⟨fun i hi => ?_, ⟨vs, q.sq, by rw [enum_len]; exact Nat.le_of_eq r.length⟩, fun i x H2 d hd hy => ?_⟩
  · rw [enum_len] at hi
    obtain ⟨v, e, _⟩ := r.get (List.getElem?_eq_getElem hi)
    exact ⟨vs, v, q.sq, e⟩
  · obtain ⟨T, x', rfl, hT, rfl, hx⟩ := hy
    rw [enum_get] at hd
    obtain ⟨d', e1, rfl⟩ := Option.map_eq_some_iff.mp hd
    obtain ⟨v, e, rl⟩ := r.get e1
    have := hx vs q.sq
    rw [e] at this
    cases this
    have e0 : ((0 + i : Nat) : Int) = (i : Int) := by omega
    rw [e0]
    exact pair_rl hT (.int _) rl ht
theorem piEnum {a : Expr} {p tpos : Pos} {t : CT} {elts : List Expr} {k : Nat} {es : CL} (hg : Gl X "enumerate") (hm : X.mg "enumerate" = none) (hs : notStar a = true) (ht : ∃ ts, t = .tup ts) (ha : PA X [a] (TLo X C es)) :
    PI X (.Tuple elts k tpos) (.Call (.Name "enumerate" p) [a] [] pos) (TIt t X C (.blt .enumerate es)) := by
  refine PI.of (pi_enA hg hm ha (star1 hs)) fun σ H R ⟨env, F, xs, env', ho, he, q⟩ => ?_
  obtain ⟨rs, ds, h1, h2, h3⟩ := evI_blt he
  refine ⟨env, F, rs, env', ho, tlo_of h1 (keeps_ok _ h2), fun vs H1 F1 G1 a1 o1 _ => ?_⟩
  obtain ⟨l, hd, rfl⟩ := enum_some h3
  rcases hd with rfl | rfl
  · obtain ⟨v, rfl, rl⟩ := one_arg' o1.2 h2
    cases rl with
    | @lst b ws _ g1 g2 => exact ⟨b, ws, rfl, .inl ⟨g1.sq, q _ H1 F1 a1 (walk_enum ht g1 g2)⟩⟩
  · obtain ⟨v, rfl, rl⟩ := one_arg' o1.2 h2
    cases rl with
    | @tup b ws _ g1 g2 => exact ⟨b, ws, rfl, .inr ⟨g1.sq, q _ H1 F1 a1 (walk_enumT ht g1 g2)⟩⟩
theorem piZip {a b : Expr} {p tpos : Pos} {t : CT} {elts : List Expr} {k : Nat} {es : CL} (hg : Gl X "zip") (hm : X.mg "zip" = none) (hs : [a, b].all notStar = true) (ht : ∃ ts, t = .tup ts) (ha : PA X [a, b] (TLo X C es)) :
    PI X (.Tuple elts k tpos) (.Call (.Name "zip" p) [a, b] [] pos) (TIt t X C (.blt .zip es)) := by
  have hs' := hs
  rw [List.all_cons, Bool.and_eq_true] at hs'
  refine PI.of (RZ.pi_zipA hg hm ha (star1 hs'.1) (by rw [back_any]; exact (allStar hs'.2).1)) fun σ H R ⟨env, F, xs, env', ho, he, q⟩ => ?_
  obtain ⟨rs, ds, h1, h2, h3⟩ := evI_blt he
  refine ⟨env, F, rs, env', ho, tlo_of h1 (keeps_ok _ h2), fun vs H1 F1 G1 a1 o1 _ => ?_⟩
  obtain ⟨l, m, hd, rfl⟩ := zip_some h3
  rcases hd with rfl | rfl
  · obtain ⟨v, v', rfl, r1, r2⟩ := rs2 (o1.2.kept h2)
    cases r1 with
    | @lst b ws _ g1 g2 =>
      cases r2 with
      | @lst b' ws' _ g3 g4 => exact ⟨b, b', ws, ws', rfl, .inl ⟨g1.sq, g3.sq, q _ H1 F1 a1 (walk_zip ht g1 g2 g3 g4)⟩⟩
  · obtain ⟨v, v', rfl, r1, r2⟩ := rs2 (o1.2.kept h2)
    cases r1 with
    | @tup b ws _ g1 g2 =>
      cases r2 with
      | @tup b' ws' _ g3 g4 => exact ⟨b, b', ws, ws', rfl, .inr ⟨g1.sq, g3.sq, q _ H1 F1 a1 (walk_zipT ht g1 g2 g3 g4)⟩⟩
end
end EV

set_option Elab.async false
set_option linter.all false
set_option maxRecDepth 100000
set_option maxHeartbeats 1000000
/-! EV27: list comprehensions (own work, over the hand layer's rules). -/
namespace EV
open PySem PySem.Spec PyProof.Rows L2
section
variable {X : Cx} {C : Cfg} {pos : Pos} {σ : L2.St}
theorem env_wipe {H : Hp} : ∀ {vs : List Nat} {σ : L2.St} {env : Ev} {F : List Addr}, EnvOk X.prog X.w X.K H σ env F → ∃ F', EnvOk X.prog X.w X.K H (wipe σ vs) (wipeE env vs) F' ∧ ∀ a ∈ F', a ∈ F
  | [], _, _, F, h => ⟨F, h, fun _ z => z⟩
  | v :: vs, _, _, F, h => by
    obtain ⟨F1, r1, r2⟩ := env_wipe (vs := vs) h
    obtain ⟨F2, s1, s2⟩ := r1.put v (x' := none) (sl' := none) (G' := []) rfl (fun a h => by simp at h)
    exact ⟨F2, s1, fun a ha => (s2 a ha).elim (fun z => by simp at z) (r2 a)⟩
def backS (σ old : L2.St) : List Nat → L2.St
  | [] => σ
  | v :: vs => (backS σ old vs).set v (old.getD v none)
theorem backS_len : ∀ {vs : List Nat} {e old : L2.St}, (backS e old vs).length = e.length
  | [], _, _ => rfl
  | v :: vs, e, old => by
    show ((backS e old vs).set v _).length = _
    rw [List.length_set]
    exact backS_len
theorem backS_get {old : L2.St} : ∀ {vs : List Nat} {e : L2.St} {i : Nat}, i < e.length → (backS e old vs)[i]? = if i ∈ vs then some (old.getD i none) else e[i]?
  | [], _, _, _ => by simp [backS]
  | v :: vs, e, i, h => by
    show ((backS e old vs).set v (old.getD v none))[i]? = _
    by_cases z : v = i
    · subst z
      rw [List.getElem?_set_self (by rw [backS_len]; exact h), if_pos List.mem_cons_self]
    · rw [List.getElem?_set_ne z, backS_get h]
      by_cases q : i ∈ vs
      · rw [if_pos q, if_pos (List.mem_cons_of_mem _ q)]
      · rw [if_neg q, if_neg fun y => (List.mem_cons.mp y).elim (fun z' => z z'.symm) q]
theorem backS_wipe {vs : List Nat} : backS (wipe σ vs) σ vs = σ := by
  apply List.ext_getElem?
  intro i
  by_cases hi : i < σ.length
  · rw [backS_get (by rw [wipe_length]; exact hi)]
    by_cases q : i ∈ vs
    · rw [if_pos q, List.getD_eq_getElem?_getD, List.getElem?_eq_getElem hi]
      rfl
    · rw [if_neg q, wipe_out q]
  · rw [List.getElem?_eq_none (by rw [backS_len, wipe_length]; omega), List.getElem?_eq_none (by omega)]
theorem backE_wipe {vs : List Nat} {e old : Ev} : backE (wipeE e vs) old vs = backE e old vs := by
  have ag : AgreeOff vs e (wipeE e vs) := wipe_agree fun _ z => z
  apply List.ext_getElem?
  intro i
  by_cases hi : i < e.length
  · rw [back_get (by rw [← ag.1]; exact hi), back_get hi]
    by_cases q : i ∈ vs
    · rw [if_pos q, if_pos q]
    · rw [if_neg q, if_neg q, ag.2 i q]
  · rw [List.getElem?_eq_none (by rw [back_len, ← ag.1]; omega), List.getElem?_eq_none (by rw [back_len]; omega)]
theorem env_back {H H1 : Hp} {σ0 : L2.St} {e0 : Ev} {F0 : List Addr} (o0 : EnvOk X.prog X.w X.K H1 σ0 e0 F0) (s : Stb H1 H) : ∀ {vs : List Nat} {σ : L2.St} {env : Ev} {F : List Addr}, plainAt e0 vs = true → EnvOk X.prog X.w X.K H σ env F →
    ∃ F', EnvOk X.prog X.w X.K H (backS σ σ0 vs) (backE env e0 vs) F' ∧ ∀ a ∈ F', a ∈ F
  | [], _, _, F, _, h => ⟨F, h, fun _ z => z⟩
  | v :: vs, _, _, F, p, h => by
    have p' : (match e0[v]? with
      | some (some (.own _)) => false
      | some _ => true
      | none => false) = true ∧ plainAt e0 vs = true := by
      unfold plainAt at p ⊢
      rw [List.all_cons, Bool.and_eq_true] at p
      exact p
    obtain ⟨F1, r1, r2⟩ := env_back o0 s p'.2 h
    have sl : ∃ x sl, σ0[v]? = some x ∧ e0[v]? = some sl ∧ SlOk X.prog X.w X.K H x sl [] := by
      have q := p'.1
      split at q
      · cases q
      · rename_i sl hn e
        obtain ⟨x, G, e1, s1, _, _⟩ := o0.at e
        refine ⟨x, sl, e1, e, ?_⟩
        match sl, s1, hn with
        | none, s1, _ => rfl
        | some (.val d), ⟨_, v', hx, rl⟩, _ => exact ⟨rfl, v', hx, Rl.stb s d rl⟩
        | some (.own o), _, hn => exact absurd rfl (hn o)
      · cases q
    obtain ⟨x, sl, e1, e2, so⟩ := sl
    obtain ⟨F2, s1, s2⟩ := r1.put v so (fun a h => by simp at h)
    refine ⟨F2, ?_, fun a ha => (s2 a ha).elim (fun z => by simp at z) (r2 a)⟩
    show EnvOk X.prog X.w X.K H ((backS _ σ0 vs).set v (σ0.getD v none)) ((backE _ e0 vs).set v (e0.getD v none)) F2
    rw [List.getD_eq_getElem?_getD, List.getD_eq_getElem?_getD, e1, e2]
    exact s1
/-- between two turns -/
structure Mid (X : Cx) (σ : L2.St) (vs : List Nat) (Dd : Addr) (q : Bool) (H1 : Hp) (F1 : List Addr) (H2 : Hp) (env2 : Ev) (F2 : List Addr) : Prop where
  ok : EnvOk X.prog X.w X.K H2 (wipe σ vs) (wipeE env2 vs) F2
  sub : ∀ a ∈ F2, a ∈ F1 ∨ (H1 a = none ∧ a ≠ Dd)
  but : ∀ b, b ∉ F1 → b ≠ Dd → H1 b ≠ none → H2 b = H1 b
  nn : ∀ b, H1 b ≠ none → H2 b ≠ none
  stb : Stb H1 H2
  pur : q = true → (∀ a ∈ F2, a ∈ F1) ∧ ∀ a ∈ F1, H2 a = H1 a
  dn : H2 Dd ≠ none
theorem wipe_eq {σ' : L2.St} {vs : List Nat} (hl : σ'.length = σ.length) (h : ∀ i, i ∉ vs → σ'[i]? = (wipe σ vs)[i]?) : wipe σ' vs = wipe σ vs := by
  apply List.ext_getElem?
  intro i
  by_cases q : i ∈ vs
  · have go : ∀ (l : L2.St) (ws : List Nat), i ∈ ws → i < l.length → (wipe l ws)[i]? = some none := by
      intro l ws
      induction ws with
      | nil => intro h; simp at h
      | cons w ws ih =>
        intro h hi
        show ((wipe l ws).set w none)[i]? = _
        by_cases z : w = i
        · subst z
          exact List.getElem?_set_self (by rw [wipe_length]; exact hi)
        · rw [List.getElem?_set_ne z]
          exact ih ((List.mem_cons.mp h).resolve_left fun y => z y.symm) hi
    by_cases hi : i < σ.length
    · rw [go σ' vs q (by omega), go σ vs q hi]
    · rw [List.getElem?_eq_none (by rw [wipe_length]; omega), List.getElem?_eq_none (by rw [wipe_length]; omega)]
  · rw [wipe_out q, h i q]
/-- one turn of the small evaluator -/
def turnF (C : Cfg) (t : CT) (cond elt : CE) (vs : List Nat) : D → Ev → Option (Option D × Ev) := fun x e => match setT t x (wipeE e vs) with
  | none => none
  | some ea => match ev C cond ea with
    | none => none
    | some (rc, eb) => match truthD rc.view with
      | none => none
      | some false => some (none, eb)
      | some true => match ev C elt eb with
        | none => none
        | some (r, ec) => r.keep.map fun d => (some d, ec)
theorem lc_at {t : CT} {it : CI} {cond elt : CE} {vs : List Nat} {env env' : Ev} {r : RV} (h : ev C (.lc t it cond elt vs) env = some (r, env')) : ∃ xs e1 p, evI C it env = some (xs, e1) ∧ plainAt e1 vs = true ∧ lcL (turnF C t cond elt vs) xs e1 = some p ∧ p.1.length ≤ sizeLine ∧ r = .own (ofL p.1) ∧ env' = backE p.2 e1 vs := by
  simp only [ev] at h
  split at h
  · cases h
  · rename_i xs e1 ei
    split at h
    · rename_i hp
      obtain ⟨p, h1, h2⟩ := Option.bind_eq_some_iff.mp h
      split at h2
      · rename_i hz
        cases h2
        exact ⟨xs, e1, p, ei, hp, h1, hz, rfl, rfl⟩
      · cases h2
    · cases h
theorem lcL_cons {f : D → Ev → Option (Option D × Ev)} {x : D} {xs : List D} {e : Ev} {p : List D × Ev} (h : lcL f (x :: xs) e = some p) : ∃ o e1 q, f x e = some (o, e1) ∧ lcL f xs e1 = some q ∧ p.2 = q.2 ∧ p.1 = (match o with | some d => [d] | none => []) ++ q.1 := by
  unfold lcL at h
  split at h
  · rename_i d e1 he
    obtain ⟨q, h1, rfl⟩ := Option.map_eq_some_iff.mp h
    exact ⟨_, e1, q, he, h1, rfl, rfl⟩
  · rename_i e1 he
    exact ⟨_, e1, p, he, h, rfl, rfl⟩
  · cases h
theorem evLc {tg it elt : Expr} {ifs : List Expr} {sc : Scope} {own : List (Str × Nat)} {t : CT} {ci : CI} {cond el : CE} (hc : X.calm = true) (hN : X.N.Nodup) (ok : BlkOk X.N X.env.scope sc own) (hi : PI X tg it (TIt t X C ci)) (ht : ∀ v ∈ tgtIx t, v ∈ own.map (·.2))
    (hg : ∀ (s : Shared) (H : Hp) (A : Addr) (cl : List (Str × Addr)) (fp : List Addr), PG (X.blk s H sc (compEnvC sc cl A X.env) fp) tg (gT X t)) (hcd : ∀ (s : Shared) (H : Hp) (A : Addr) (cl : List (Str × Addr)) (fp : List Addr), PTs (X.blk s H sc (compEnvC sc cl A X.env) fp) ifs (TTe X C cond))
    (he : ∀ (s : Shared) (H : Hp) (A : Addr) (cl : List (Str × Addr)) (fp : List Addr), PE (X.blk s H sc (compEnvC sc cl A X.env) fp) elt (TOp X C el)) : ∀ {σ : L2.St} {H : Hp} {Q : VK}, TEv X C (.lc t ci cond el (own.map (·.2))) σ H Q → tLc (TIt t X C ci) (gT X t) (TTe X C cond) (TOp X C el) (own.map (·.2)) σ H Q := by
  intro σ H Q ⟨env, F, r, env', ho, hev, q⟩
  obtain ⟨xs, e1, p, h1, hp, h2, hz, rfl, rfl⟩ := lc_at hev
  generalize hvs : own.map (·.2) = vs at *
  refine ⟨env, F, xs, e1, ho, h1, fun J H1 F1 a1 wk Dd hD => ?_⟩
  let pq : Bool := pureE cond && pureE el
  let H1' : Hp := upd H1 Dd (.lst [])
  have sm : Same H1 H1' := same_new hD
  have o1' := a1.more sm
  have dF1 : Dd ∉ F1 := fun z => (a1.ok.foot Dd z).ne hD
  obtain ⟨F0, w1, w2⟩ := env_wipe (vs := vs) o1'.ok
  -- the state ahead of turn i
  let W : Nat → Nat → Hp → Prop := fun i m H2 => m = xs.length - i ∧ i ≤ xs.length ∧ ∃ env2 F2 acc dn rest, Mid X σ vs Dd pq H1 F1 H2 env2 F2 ∧ H2 Dd = some (.lst acc) ∧ RsA X H2 acc dn ∧ lcL (turnF C t cond el vs) (xs.drop i) env2 = some (rest, p.2) ∧ dn ++ rest = p.1
  refine ⟨W, ⟨xs.length, by simp, Nat.zero_le _, e1, F0, [], [], p.1, ⟨w1, fun a ha => .inl (w2 a ha), fun b hb hn hx => ?_, fun b hn => upd_nn b hn, Stb.of_same sm, fun _ => ⟨w2, fun a ha => upd_ne fun z => dF1 (z ▸ ha)⟩, by rw [upd_same]; simp⟩, upd_same, .nil, by rw [List.drop_zero]; exact h2, by simp⟩, ?_⟩
  · exact upd_ne hn
  rintro i m H2 ⟨rfl, hi, env2, F2, acc, dn, rest, M, eD, rl, hl, hr⟩
  have stb1 : Stb H1 H2 := M.stb
  obtain ⟨go, stop, yld⟩ := wk H2 stb1
  by_cases hlt : i < xs.length
  · refine .inr ⟨go i hlt, fun H' => ∃ m', m' < xs.length - i ∧ W (i + 1) m' H', fun H' h => h, fun x H3 hy => ?_⟩
    have hd : xs[i]? = some xs[i] := List.getElem?_eq_getElem hlt
    obtain ⟨s3, rI⟩ := yld i x H3 xs[i] hd hy
    have hdrop : xs.drop i = xs[i] :: xs.drop (i + 1) := by rw [List.drop_eq_getElem_cons hlt]
    rw [hdrop] at hl
    obtain ⟨o, e2, qq, f1, f2, f3, f4⟩ := lcL_cons hl
    have f3 : p.2 = qq.2 := f3
    have f4 : rest = _ ++ qq.1 := f4
    -- the target
    have k3 : ∀ a ∈ F2, H3 a = H2 a := fun a ha => by
      have := (M.ok.foot a ha).ne
      cases e : H2 a with
      | none => exact absurd e this
      | some u => exact s3 a u e
    have ok3 := M.ok.keep (Stb.of_same s3) k3
    unfold turnF at f1
    split at f1
    · cases f1
    · rename_i ea es
      refine ⟨wipeE env2 vs, F2, xs[i], ea, ok3, rI, es, fun σ8 F8 st => ?_⟩
      have w8 : wipe σ8 vs = wipe σ vs := by
        refine wipe_eq ?_ fun j hj => st.out j fun z => hj (ht j z)
        have l1 := st.ok.length
        have l2 := ok3.length
        have : ea.length = (wipeE env2 vs).length := ((setT_agree (t := t) (vs := tgtIx t) (fun _ z => z) es).1).symm
        rw [wipe_length] at l2
        omega
      refine ⟨w8, ?_⟩
      -- back to the invariant, from a state behind the turn
      have back : ∀ {H5 : Hp} {ec : Ev} {F5 : List Addr} {pe : Bool} (accN : List V) (dnN : List D) (H6 : Hp), Aft X σ8 pe H3 ea F8 H5 ec F5 → (pq = true → pe = true) → (∀ b, b ≠ Dd → H6 b = H5 b) → H6 Dd = some (.lst accN) → RsA X H5 accN dnN → Stb H5 H6 → lcL (turnF C t cond el vs) (xs.drop (i + 1)) ec = some (qq.1, p.2) → dnN ++ qq.1 = p.1 →
          W (i + 1) (xs.length - (i + 1)) H6 := by
        intro H5 ec F5 pe accN dnN H6 af hpe hoff hacc hrl hst hl' hr'
        obtain ⟨F6, x1, x2⟩ := env_wipe (vs := vs) af.ok
        rw [w8] at x1
        have dF5 : Dd ∉ F5 := fun z => by
          rcases af.sub Dd z with y | y
          · rcases M.sub Dd (st.sub Dd y) with u | u
            · exact dF1 u
            · exact u.2 rfl
          · have : H2 Dd ≠ none := M.dn
            cases e : H2 Dd with
            | none => exact this e
            | some u => rw [s3 Dd u e] at y; cases y
        have sub5 : ∀ a ∈ F5, a ∈ F1 ∨ (H1 a = none ∧ a ≠ Dd) := fun a ha => by
          rcases af.sub a ha with y | y
          · exact M.sub a (st.sub a y)
          · refine .inr ⟨?_, fun z => dF5 (z ▸ ha)⟩
            cases e : H1 a with
            | none => rfl
            | some u =>
              have n2 := M.nn a (by rw [e]; simp)
              cases e2 : H2 a with
              | none => exact absurd e2 n2
              | some u2 => rw [s3 a u2 e2] at y; cases y
        refine ⟨rfl, hlt, ec, F6, accN, dnN, qq.1, ⟨x1.keep hst fun a ha => hoff a fun z => dF5 (z ▸ x2 a ha), fun a ha => sub5 a (x2 a ha), fun b hb hn hx => ?_, fun b hn => ?_, (M.stb.trans (Stb.of_same s3)).trans (af.stb.trans hst), fun z => ?_, by rw [hacc]; simp⟩, hacc, RlA.stb hst _ hrl, hl', hr'⟩
        · have n2 := M.nn b hx
          have e3 : H3 b = H2 b := by
            cases e2 : H2 b with
            | none => exact absurd e2 n2
            | some u2 => exact s3 b u2 e2
          rw [hoff b hn, af.but b (fun z => ?_) (by rw [e3]; exact n2), e3]
          · exact M.but b hb hn hx
          · rcases M.sub b (st.sub b z) with y | y
            · exact hb y
            · exact hx y.1
        · by_cases z : b = Dd
          · subst z; rw [hacc]; simp
          · rw [hoff b z]
            refine af.nn b ?_
            have n2 := M.nn b hn
            cases e2 : H2 b with
            | none => exact absurd e2 n2
            | some u2 => rw [s3 b u2 e2]; simp
        · obtain ⟨p1, p2⟩ := M.pur z
          obtain ⟨q1, q2, q3⟩ := af.pur (hpe z)
          refine ⟨fun a ha => ?_, fun a ha => ?_⟩
          · have := x2 a ha
            rw [q2] at this
            exact p1 a (st.sub a this)
          · have hne : a ≠ Dd := fun y => dF1 (y ▸ ha)
            rw [hoff a hne]
            have m1 := (a1.ok.foot a ha)
            have n2 := M.nn a m1.ne
            have e3 : H3 a = H2 a := by
              cases e2 : H2 a with
              | none => exact absurd e2 n2
              | some u2 => exact s3 a u2 e2
            by_cases hf8 : a ∈ F8
            · rw [q3 a hf8, e3, p2 a ha]
            · rw [af.but a hf8 (by rw [e3]; exact n2), e3, p2 a ha]
      split at f1
      · cases f1
      · rename_i rc eb ec'
        split at f1
        · cases f1
        · rename_i htr
          cases f1
          refine ⟨ea, F8, false, e2, st.ok, evT_of ec' htr, fun bb H4 F9 G9 a4 hb4 _ => ?_⟩
          subst hb4
          rw [if_neg (by decide)]
          have e4 : H4 Dd = some (.lst acc) := by
            have n3 : H3 Dd = some (.lst acc) := s3 Dd _ eD
            rw [a4.but Dd (fun z => ?_) (by rw [n3]; simp), n3]
            rcases M.sub Dd (st.sub Dd z) with y | y
            · exact dF1 y
            · exact y.2 rfl
          exact ⟨_, by omega, back acc dn H4 a4 (fun z => (and2 z).1) (fun _ _ => rfl) e4 (RlA.stb ((Stb.of_same s3).trans a4.stb) _ rl) (Stb.refl _) (by rw [f3]; exact f2) (by rw [← hr, f4]; rfl)⟩
        · rename_i htr
          split at f1
          · cases f1
          · rename_i r2 e5 ee
            obtain ⟨d5, hk5, hz5⟩ := Option.map_eq_some_iff.mp f1
            cases hz5
            refine ⟨ea, F8, true, eb, st.ok, evT_of ec' htr, fun bb H4 F9 G9 a4 hb4 _ => ?_⟩
            subst hb4
            rw [if_pos rfl]
            refine ⟨eb, F9, r2, e2, a4.ok, ee, fun y H5 F10 G10 a5 o5 _ => ?_⟩
            have a45 := a4.trans a5 (r := pq) fun z => and2 z
            have e5D : H5 Dd = some (.lst acc) := by
              have n3 : H3 Dd = some (.lst acc) := s3 Dd _ eD
              rw [a45.but Dd (fun z => ?_) (by rw [n3]; simp), n3]
              rcases M.sub Dd (st.sub Dd z) with y | y
              · exact dF1 y
              · exact y.2 rfl
            have ry := o5.2.kept hk5
            have racc : RsA X H5 acc dn := RlA.stb ((Stb.of_same s3).trans a45.stb) _ rl
            have hst : Stb H5 (upd H5 Dd (.lst (acc ++ [y]))) := (upd_but (F := [Dd]) List.mem_cons_self).stb fun c hc => by
              rcases List.mem_singleton.mp hc with rfl
              exact .inl ⟨_, e5D⟩
            have f4 : rest = [d5] ++ qq.1 := f4
            have hsz : acc.length < sizeLine := by
              have := congrArg List.length hr
              rw [f4, List.length_append, List.length_append, ← rl.length] at this
              simp only [List.length_singleton] at this
              omega
            exact ⟨acc, e5D, hsz, _, by omega, back (acc ++ [y]) (dn ++ [d5]) _ a45 (fun z => z) (fun b hb => upd_ne hb) upd_same (racc.append (.cons ry .nil)) hst (by rw [f3]; exact f2) (by rw [← hr, f4, List.append_assoc])⟩
  · have e : i = xs.length := by omega
    subst e
    refine .inl ⟨stop, ?_⟩
    rw [List.drop_length] at hl
    have hl : some ([], env2) = some (rest, p.2) := hl
    cases hl
    rw [List.append_nil] at hr
    subst hr
    have dF : Dd ∉ F ∧ H Dd = none := by
      have hn : H Dd = none := by
        cases e : H Dd with
        | none => rfl
        | some u => exact absurd hD (a1.nn Dd (by rw [e]; simp))
      exact ⟨fun z => (ho.foot Dd z).ne hn, hn⟩
    have apD : ∀ F', Dd ∉ F' → Apart H F F' [Dd] := fun F' h => ⟨fun a ha => by
      rcases List.mem_singleton.mp ha with rfl
      exact h, fun a ha => by
      rcases List.mem_singleton.mp ha with rfl
      exact .inr dF.2⟩
    have rvo : ∀ F', RvO X H2 F' (.ref Dd) (.own (ofL p.1)) [Dd] := fun F' => Ow.lst (F := []) eD (ows_imm rl) (by simp)
    have but2 : ∀ b, b ∉ F → H b ≠ none → H2 b = H b := fun b hb hn => by
      have n1 := a1.nn b hn
      rw [M.but b (fun z => (a1.sub b z).elim hb hn) (fun z => n1 (z ▸ hD)) n1]
      exact a1.but b hb hn
    have nn2 : ∀ b, H b ≠ none → H2 b ≠ none := fun b hn => M.nn b (a1.nn b hn)
    cases hpu : pureE (.lc t ci cond el vs) with
    | true =>
      have hen := pure_ev hpu hev
      have hpu' : (pureI ci && pureE cond && pureE el && (tgtIx t).all vs.contains) = true := hpu
      obtain ⟨z1, _⟩ := p2 hpu'
      obtain ⟨z2, z3⟩ := p2 z1
      obtain ⟨z4, z5⟩ := p2 z2
      obtain ⟨r1, r2, r3⟩ := a1.pur z4
      subst r2
      obtain ⟨_, k2⟩ := M.pur (show (pureE cond && pureE el) = true by rw [z5, z3]; rfl)
      have kF : ∀ a ∈ F1, H2 a = H a := fun a ha => (k2 a ha).trans (r3 a ha)
      rw [hpu] at q
      exact q (.ref Dd) H2 F1 [Dd] ⟨by rw [hen]; exact ho.keep (a1.stb.trans M.stb) kF, fun a ha => .inl ha, but2, nn2, a1.stb.trans M.stb, fun _ => ⟨hen, rfl, kF⟩⟩ (rvo _) (apD _ dF.1)
    | false =>
      rw [hpu] at q
      obtain ⟨F', b1, b2⟩ := env_back a1.ok M.stb hp M.ok
      rw [backS_wipe, backE_wipe] at b1
      have sub' : ∀ a ∈ F', a ∈ F ∨ H a = none := fun a ha => by
        rcases M.sub a (b2 a ha) with y | y
        · exact a1.sub a y
        · cases e : H a with
          | none => exact .inr rfl
          | some u => exact absurd y.1 (a1.nn a (by rw [e]; simp))
      refine q (.ref Dd) H2 F' [Dd] ⟨b1, sub', but2, nn2, a1.stb.trans M.stb, fun z => nomatch z⟩ (rvo _) (apD _ fun z => ?_)
      rcases M.sub Dd (b2 Dd z) with y | y
      · exact dF1 y
      · exact y.2 rfl
end
end EV

set_option Elab.async false
set_option linter.all false
set_option maxRecDepth 100000
set_option maxHeartbeats 1000000
/-! EV28: statements (own work, over the hand layer's rules). -/
namespace EV
open PySem PySem.Spec PyProof.Rows L2
section
variable {X : Cx} {C : Cfg} {pos : Pos}
/-- behind a statement -/
structure Bst (X : Cx) (σ : L2.St) (H : Hp) (F : List Addr) (ix : List Nat) (σ' : L2.St) (H' : Hp) (env' : Ev) (F' : List Addr) : Prop where
  ok : EnvOk X.prog X.w X.K H' σ' env' F'
  sub : ∀ a ∈ F', a ∈ F ∨ H a = none
  but : But F H H'
  nn : ∀ b, H b ≠ none → H' b ≠ none
  stb : Stb H H'
  out : ∀ i, i ∉ ix → σ'[i]? = σ[i]?
  len : σ'.length = σ.length
theorem Bst.refl {σ : L2.St} {H : Hp} {env : Ev} {F : List Addr} {ix : List Nat} (h : EnvOk X.prog X.w X.K H σ env F) : Bst X σ H F ix σ H env F :=
  ⟨h, fun a ha => .inl ha, But.refl _ _, fun _ z => z, Stb.refl _, fun _ _ => rfl, rfl⟩
theorem Bst.of {σ : L2.St} {p : Bool} {H H' : Hp} {env env' : Ev} {F F' : List Addr} {ix : List Nat} (a : Aft X σ p H env F H' env' F') : Bst X σ H F ix σ H' env' F' := ⟨a.ok, a.sub, a.but, a.nn, a.stb, fun _ _ => rfl, rfl⟩
theorem Bst.trans {σ σ1 σ2 : L2.St} {H H1 H2 : Hp} {e1 e2 : Ev} {F F1 F2 : List Addr} {ix jx kx : List Nat} (a : Bst X σ H F ix σ1 H1 e1 F1) (b : Bst X σ1 H1 F1 jx σ2 H2 e2 F2) (h1 : ∀ i ∈ ix, i ∈ kx) (h2 : ∀ i ∈ jx, i ∈ kx) : Bst X σ H F kx σ2 H2 e2 F2 := by
  refine ⟨b.ok, fun x hx => ?_, fun x hx hn => ?_, fun x hn => b.nn x (a.nn x hn), a.stb.trans b.stb, fun i hi => (b.out i fun z => hi (h2 i z)).trans (a.out i fun z => hi (h1 i z)), b.len.trans a.len⟩
  · rcases b.sub x hx with z | z
    · exact a.sub x z
    · cases e : H x with
      | none => exact .inr rfl
      | some u => exact absurd z (a.nn x (by rw [e]; simp))
  · have e1 := a.but x hx hn
    rw [b.but x (fun z => ?_) (a.nn x hn), e1]
    rcases a.sub x z with q | q
    · exact hx q
    · exact hn q
theorem Bst.imp {σ σ' : L2.St} {H H' : Hp} {env' : Ev} {F F' : List Addr} {ix jx : List Nat} (a : Bst X σ H F ix σ' H' env' F') (h : ∀ i ∈ ix, i ∈ jx) : Bst X σ H F jx σ' H' env' F' :=
  ⟨a.ok, a.sub, a.but, a.nn, a.stb, fun i hi => a.out i fun z => hi (h i z), a.len⟩
theorem Bst.back {σ σ1 : L2.St} {H H1 : Hp} {e1 : Ev} {F F1 F2 G : List Addr} {ix : List Nat} (a : Bst X σ H F ix σ1 H1 e1 F1) (h : Apart H1 F1 F2 G) : Apart H F F2 G := by
  refine ⟨h.off, fun x hx => ?_⟩
  rcases h.sub x hx with z | z
  · exact a.sub x z
  · cases e : H x with
    | none => exact .inr rfl
    | some u => exact absurd z (a.nn x (by rw [e]; simp))
/-- what a statement's end gives -/
def Goal (X : Cx) (D : Ends) (σ : L2.St) (H : Hp) (F : List Addr) (ix : List Nat) (fl : Fl) (env' : Ev) : Prop :=
  match fl with
  | .next => ∀ σ' H' F', Bst X σ H F ix σ' H' env' F' → D.nx σ' H'
  | .brk => ∀ σ' H' F', Bst X σ H F ix σ' H' env' F' → D.bk σ' H'
  | .cnt => ∀ σ' H' F', Bst X σ H F ix σ' H' env' F' → D.ct σ' H'
  | .ret r => ∀ v σ' H' F' G, Bst X σ H F ix σ' H' env' F' → RvO X H' F' v r G → Apart H F F' G → r.isBrw = false → D.rt v H'
def TSt (X : Cx) (f : Ev → Option (Fl × Ev)) (ix : List Nat) : TS := fun D σ H => ∃ env F fl env', EnvOk X.prog X.w X.K H σ env F ∧ f env = some (fl, env') ∧ Goal X D σ H F ix fl env'
theorem Goal.imp {D D' : Ends} {σ σ1 : L2.St} {H H1 : Hp} {F F1 : List Addr} {e1 env' : Ev} {ix jx kx : List Nat} {fl : Fl} (b : Bst X σ H F ix σ1 H1 e1 F1) (h1 : ∀ i ∈ ix, i ∈ kx) (h2 : ∀ i ∈ jx, i ∈ kx) (g : Goal X D σ H F kx fl env')
    (hn : fl = .next → D'.nx = D.nx) (hb : D'.bk = D.bk) (hc : D'.ct = D.ct) (hr : D'.rt = D.rt) : Goal X D' σ1 H1 F1 jx fl env' := by
  match fl, g, hn with
  | .next, g, hn => exact fun σ' H' F' x => by rw [hn rfl]; exact g σ' H' F' (b.trans x h1 h2)
  | .brk, g, _ => exact fun σ' H' F' x => by rw [hb]; exact g σ' H' F' (b.trans x h1 h2)
  | .cnt, g, _ => exact fun σ' H' F' x => by rw [hc]; exact g σ' H' F' (b.trans x h1 h2)
  | .ret r, g, _ => exact fun v σ' H' F' G x y z w => by rw [hr]; exact g v σ' H' F' G (b.trans x h1 h2) y (b.back z) w
theorem ssNil : PSs X [] (TSt X (evB C .nil) []) := pss_nil.of fun D σ H ⟨env, F, fl, env', ho, he, g⟩ => by
  have he : some (Fl.next, env) = some (fl, env') := he
  cases he
  exact g σ H F (Bst.refl ho)
theorem mem_l {a b : List Nat} : ∀ i ∈ a, i ∈ a ++ b := fun i h => List.mem_append_left _ h
theorem mem_r {a b : List Nat} : ∀ i ∈ b, i ∈ a ++ b := fun i h => List.mem_append_right _ h
theorem ssCons {st : Stmt} {rest : List Stmt} {s : CS} {b : CB} (h1 : PS X st (TSt X (evS C s) (stoS s))) (h2 : PSs X rest (TSt X (evB C b) (stoB b))) : PSs X (st :: rest) (TSt X (evB C (.cons s b)) (stoB (.cons s b))) :=
    (pss_cons h1 h2).of fun D σ H ⟨env, F, fl, env', ho, he, g⟩ => by
  have he : (match evS C s env with
    | some (.next, e1) => evB C b e1
    | r => r) = some (fl, env') := by
    simp only [evB] at he
    exact he
  show TSt X (evS C s) (stoS s) { D with nx := TSt X (evB C b) (stoB b) D } σ H
  have gi : stoB (.cons s b) = stoS s ++ stoB b := by simp [stoB]
  rw [gi] at g
  have other : ∀ fl1, fl1 ≠ .next → evS C s env = some (fl1, env') → fl1 = fl → TSt X (evS C s) (stoS s) { D with nx := TSt X (evB C b) (stoB b) D } σ H := fun fl1 hn hs e => by
    subst e
    exact ⟨env, F, fl1, env', ho, hs, Goal.imp (Bst.refl (ix := []) ho) (fun i h => by simp at h) mem_l g (fun z => absurd z hn) rfl rfl rfl⟩
  cases hs : evS C s env with
  | none => rw [hs] at he; cases he
  | some p =>
    obtain ⟨fl1, e1⟩ := p
    rw [hs] at he
    cases fl1 with
    | next =>
      refine ⟨env, F, .next, e1, ho, hs, fun σ1 H1 F1 b1 => ⟨e1, F1, fl, env', b1.ok, he, ?_⟩⟩
      exact Goal.imp b1 mem_l mem_r g (fun _ => rfl) rfl rfl rfl
    | brk => cases he; exact other _ (by simp) hs rfl
    | cnt => cases he; exact other _ (by simp) hs rfl
    | ret r => cases he; exact other _ (by simp) hs rfl
theorem sPass : PS X (.Pass pos) (TSt X (evS C .pas) []) := ps_pass.of fun D σ H ⟨env, F, fl, env', ho, he, g⟩ => by
  have he : some (Fl.next, env) = some (fl, env') := by simpa [evS] using he
  cases he
  exact g σ H F (Bst.refl ho)
theorem sDoc {x : Str} {j : Nat} {p : Pos} : PS X (.Expr (.Constant (.str x) j p) pos) (TSt X (evS C .pas) []) := ps_doc.of fun D σ H ⟨env, F, fl, env', ho, he, g⟩ => by
  have he : some (Fl.next, env) = some (fl, env') := by simpa [evS] using he
  cases he
  exact g σ H F (Bst.refl ho)
theorem sBrk : PS X (.Break pos) (TSt X (evS C .brk) []) := ps_break.of fun D σ H ⟨env, F, fl, env', ho, he, g⟩ => by
  have he : some (Fl.brk, env) = some (fl, env') := by simpa [evS] using he
  cases he
  exact g σ H F (Bst.refl ho)
theorem sCnt : PS X (.Continue pos) (TSt X (evS C .cnt) []) := ps_continue.of fun D σ H ⟨env, F, fl, env', ho, he, g⟩ => by
  have he : some (Fl.cnt, env) = some (fl, env') := by simpa [evS] using he
  cases he
  exact g σ H F (Bst.refl ho)
theorem sNev {st : Stmt} {ix : List Nat} : PS X st (TSt X (evS C .nev) ix) := ⟨fun pins s σ H D I ⟨env, F, fl, env', ho, he, g⟩ => by
  simp [evS] at he⟩
theorem sIf {c : Expr} {a b : List Stmt} {c' : CE} {a' b' : CB} (hc : PT X c (TTe X C c')) (ha : PSs X a (TSt X (evB C a') (stoB a'))) (hb : PSs X b (TSt X (evB C b') (stoB b'))) : PS X (.If c a b pos) (TSt X (evS C (.ifs c' a' b')) (stoS (.ifs c' a' b'))) :=
    (ps_if hc ha hb).of fun D σ H ⟨env, F, fl, env', ho, he, g⟩ => by
  simp only [evS] at he
  have gi : stoS (.ifs c' a' b') = stoB a' ++ stoB b' := by simp [stoS]
  rw [gi] at g
  split at he
  · cases he
  · rename_i e1 hc'
    refine ⟨env, F, true, e1, ho, hc', fun k H1 F1 G1 a1 hk _ => ?_⟩
    subst hk
    rw [if_pos rfl]
    exact ⟨e1, F1, fl, env', a1.ok, he, Goal.imp (Bst.of (ix := []) a1) (fun i h => by simp at h) mem_l g (fun _ => rfl) rfl rfl rfl⟩
  · rename_i e1 hc'
    refine ⟨env, F, false, e1, ho, hc', fun k H1 F1 G1 a1 hk _ => ?_⟩
    subst hk
    rw [if_neg (by decide)]
    exact ⟨e1, F1, fl, env', a1.ok, he, Goal.imp (Bst.of (ix := []) a1) (fun i h => by simp at h) mem_r g (fun _ => rfl) rfl rfl rfl⟩
theorem sRet {e : Expr} {e' : CE} (he : PE X e (TEv X C e')) : PS X (.Return (some e) pos) (TSt X (evS C (.ret e')) []) := (ps_ret he).of fun D σ H ⟨env, F, fl, env', ho, hh, g⟩ => by
  simp only [evS] at hh
  split at hh
  · cases hh
  · rename_i r e1 hr
    split at hh
    · cases hh
    · rename_i hb
      cases hh
      exact ⟨env, F, r, env', ho, hr, fun v H' F' G a b c => g v σ H' F' G (Bst.of a) b c (by simpa using hb)⟩
theorem sRetN : PS X (.Return none pos) (TSt X (evS C (.ret (.con .non))) []) := ps_retN.of fun D σ H ⟨env, F, fl, env', ho, hh, g⟩ => by
  have hh : some (Fl.ret (.val .none), env) = some (fl, env') := by simpa [evS, ev, RV.isBrw, Cn.d] using hh
  cases hh
  exact g .non σ H F [] (Bst.refl ho) ⟨rfl, .non⟩ Apart.nil rfl
theorem sRetO {x : Str} {p : Pos} {i : Nat} (hN : X.N[i]? = some x) (hv : Vis X.env.scope x) (hd : (x == ("__debug__" : Str)) = false) (hcd : (x == ("__classdict__" : Str)) = false) : PS X (.Return (some (.Name x p)) pos) (TSt X (evS C (.retO i)) []) :=
    (ps_ret (pe_var hN hv hd hcd)).of fun D σ H ⟨env, F, fl, env', ho, hh, g⟩ => by
  simp only [evS] at hh
  split at hh
  · rename_i o e
    cases hh
    obtain ⟨x1, G, e1, s1, sub, rp⟩ := ho.at e
    obtain ⟨v, rfl, ow⟩ := s1
    obtain ⟨F', r1, r2⟩ := rp H (some v) none [] (Stb.refl _) (fun _ _ _ => rfl) rfl (fun a h => by simp at h)
    rw [set_same e1] at r1
    have r2' : ∀ a ∈ F', a ∈ F ∧ a ∉ G := fun a ha => (r2 a ha).elim (fun z => by simp at z) id
    exact ⟨v, e1, g v σ H F' G ⟨r1, fun a ha => .inl (r2' a ha).1, But.refl _ _, fun _ z => z, Stb.refl _, fun _ _ => rfl, rfl⟩ ow ⟨fun a ha hb => (r2' a hb).2 ha, fun a ha => .inl (sub a ha)⟩ rfl⟩
  · rename_i d e
    cases hh
    obtain ⟨x1, G, e1, s1, sub, _⟩ := ho.at e
    obtain ⟨hG, v, rfl, rl⟩ := s1
    exact ⟨v, e1, g v σ H F [] (Bst.refl ho) ⟨rfl, rl⟩ Apart.nil rfl⟩
  · cases hh
theorem swaps_no {e : Expr} {t : Option Expr} {n : Nat} {env : Env} (h : notComp e = true) : swapsWith e t n env = pure false := by
  cases e <;> first
    | rfl
    | cases h
theorem sExp {e : Expr} {e' : CE} (hc : notComp e = true) (he : PE X e (TEv X C e')) : PS X (.Expr e pos) (TSt X (evS C (.exp e')) []) := (ps_expr he (swaps_no hc)).of fun D σ H ⟨env, F, fl, env', ho, hh, g⟩ => by
  simp only [evS] at hh
  obtain ⟨p, h1, h2⟩ := Option.map_eq_some_iff.mp hh
  cases h2
  exact ⟨env, F, p.1, p.2, ho, h1, fun v H' F' G a b c => g σ H' F' (Bst.of a)⟩
end
end EV

set_option Elab.async false
set_option linter.all false
set_option maxRecDepth 100000
set_option maxHeartbeats 1000000
/-! EV29: stores and loops (own work, over the hand layer's rules). -/
namespace EV
open PySem PySem.Spec PyProof.Rows L2
section
variable {X : Cx} {C : Cfg} {pos : Pos}
/-- a slot gets an object -/
theorem put_own {σ : L2.St} {p : Bool} {H H1 : Hp} {env e1 : Ev} {F F1 G : List Addr} {v : V} {o : O} {i : Nat} (a : Aft X σ p H env F H1 e1 F1) (ow : Ow X.prog X.w X.K H1 v o G) (ap : Apart H F F1 G) :
    ∃ F', Bst X σ H F [i] (σ.set i (some v)) H1 (e1.set i (some (.own o))) F' := by
  obtain ⟨F', r1, r2⟩ := a.ok.put i (x' := some v) (sl' := some (.own o)) ⟨v, rfl, ow⟩ ap.off
  refine ⟨F', r1, fun b hb => ?_, a.but, a.nn, a.stb, fun j hj => List.getElem?_set_ne fun z => hj (by simp [z]), by rw [List.length_set]⟩
  rcases r2 b hb with z | z
  · exact ap.sub b z
  · exact a.sub b z
theorem put_val {σ : L2.St} {p : Bool} {H H1 : Hp} {env e1 : Ev} {F F1 : List Addr} {v : V} {d : D} {i : Nat} (a : Aft X σ p H env F H1 e1 F1) (rl : Rs X H1 v d) :
    ∃ F', Bst X σ H F [i] (σ.set i (some v)) H1 (e1.set i (some (.val d))) F' := by
  obtain ⟨F', r1, r2⟩ := a.ok.put i (x' := some v) (sl' := some (.val d)) (G' := []) ⟨rfl, v, rfl, rl⟩ (fun a h => by simp at h)
  refine ⟨F', r1, fun b hb => ?_, a.but, a.nn, a.stb, fun j hj => List.getElem?_set_ne fun z => hj (by simp [z]), by rw [List.length_set]⟩
  rcases r2 b hb with z | z
  · simp at z
  · exact a.sub b z
/-- the reading of name = e, the name owns -/
theorem asgO_rd {e' : CE} {i : Nat} {σ : L2.St} {H : Hp} {D : Ends} (h : TSt X (evS C (.asgO i e')) [i] D σ H) : tAsg (TEv X C e') (gName i) D σ H := by
  obtain ⟨env, F, fl, env', ho, hh, g⟩ := h
  simp only [evS] at hh
  split at hh
  · rename_i o e1 he
    cases hh
    refine ⟨env, F, _, e1, ho, he, fun v H' F' G a b c => ?_⟩
    obtain ⟨F2, bs⟩ := put_own (i := i) a (show Ow X.prog X.w X.K H' v o G from b) c
    exact g _ H' F2 bs
  · rename_i d e1 he
    cases hh
    refine ⟨env, F, _, e1, ho, he, fun v H' F' G a b c => ?_⟩
    obtain ⟨F2, bs⟩ := put_val (i := i) a (show Rs X H' v d from b.2)
    exact g _ H' F2 bs
  · cases hh
/-- .. the name holds data -/
theorem asg_rd {e' : CE} {t : CT} {σ : L2.St} {H : Hp} {D : Ends} (h : TSt X (evS C (.asg t e')) (tgtIx t) D σ H) : tAsg (TOp X C e') (gT X t) D σ H := by
  obtain ⟨env, F, fl, env', ho, hh, g⟩ := h
  simp only [evS] at hh
  split at hh
  · cases hh
  · rename_i r e1 he
    obtain ⟨d, hk, hs⟩ := Option.bind_eq_some_iff.mp hh
    obtain ⟨e2, hs, ee⟩ := Option.map_eq_some_iff.mp hs
    cases ee
    refine ⟨env, F, r, e1, ho, he, fun v H' F' G a b _ => ⟨e1, F', d, env', a.ok, RlI.of (b.2.kept hk), hs, fun σ' F2 st => ?_⟩⟩
    have hl : σ'.length = σ.length := by
      have l1 := st.ok.length
      have l2 := a.ok.length
      have : e1.length = env'.length := (setT_agree (t := t) (vs := tgtIx t) (fun _ z => z) hs).1
      omega
    exact g σ' H' F2 ⟨st.ok, fun b hb => a.sub b (st.sub b hb), a.but, a.nn, a.stb, st.out, hl⟩
theorem asgNm_rd {e' : CE} {i : Nat} {σ : L2.St} {H : Hp} {D : Ends} (h : TSt X (evS C (.asg (.nm i) e')) [i] D σ H) : tAsg (TOp X C e') (gName i) D σ H := by
  obtain ⟨env, F, r, e1, ho, he, q⟩ := asg_rd (t := .nm i) (by simpa [tgtIx] using h)
  refine ⟨env, F, r, e1, ho, he, fun v H' F' G a b c => ?_⟩
  obtain ⟨env2, F2, d, env3, ok, rl, st, qq⟩ := q v H' F' G a b c
  have st : some (env2.set i (some (.val d))) = some env3 := st
  cases st
  obtain ⟨F3, s⟩ := sto_set (i := i) ok (show Rs X H' v d from rl)
  exact qq _ F3 (by simpa [tgtIx] using s)
theorem sAsgO {x : Str} {p : Pos} {i : Nat} {e : Expr} {e' : CE} (hN : X.N.Nodup) (hi : X.N[i]? = some x) (hx : Loc X.env.scope x) (hf : X.fn x = true ∨ X.env.scope.names.lookup x = some .local) (hc : notComp e = true) (he : PE X e (TEv X C e')) :
    PS X (.Assign [.Name x p] e pos) (TSt X (evS C (.asgO i e')) [i]) := (ps_set hN hi hx he (swaps_no hc) hf).of fun D σ H h => asgO_rd h
theorem sAsgN {x : Str} {p : Pos} {i : Nat} {e : Expr} {e' : CE} (hN : X.N.Nodup) (hi : X.N[i]? = some x) (hx : Loc X.env.scope x) (hf : X.fn x = true ∨ X.env.scope.names.lookup x = some .local) (hc : notComp e = true) (he : PE X e (TEv X C e')) :
    PS X (.Assign [.Name x p] e pos) (TSt X (evS C (.asg (.nm i) e')) [i]) := (ps_set hN hi hx he.op (swaps_no hc) hf).of fun D σ H h => asgNm_rd h
theorem stores_no {ts : List Expr} {k : Nat} {p : Pos} {e : Expr} {env : Env} (h : notTup e = true) : swappedStores [.Tuple ts k p] e env = pure none := by
  cases e <;> first
    | rfl
    | cases h
theorem swaps_tup {ts : List Expr} {k : Nat} {p : Pos} {e : Expr} {n : Nat} {env : Env} : swapsWithSole [.Tuple ts k p] e n env = pure false := by
  cases e <;> rfl
theorem sAsgT {es : List Expr} {k : Nat} {p : Pos} {ts : CTs} {e : Expr} {e' : CE} (hN : X.N.Nodup) (hc : X.calm = true) (ht : TgS X (.Tuple es k p) (.tup ts)) (hn : notTup e = true) (he : PE X e (TEv X C e')) :
    PS X (.Assign [.Tuple es k p] e pos) (TSt X (evS C (.asg (.tup ts) e')) (tgtIx (.tup ts))) := (ps_asg he.op (ht.pg hN hc) swaps_tup (stores_no hn)).of fun D σ H h => asg_rd h
/-! ### loops -/
theorem sWhl {c : Expr} {b : List Stmt} {c' : CE} {b' : CB} (hp : PassesOwn (model X.prog X.w) X.A X.env X.xe) (hc : PT X c (TTe X C c')) (hb : PSs X b (TSt X (evB C b') (stoB b'))) : PS X (.While c b [] pos) (TSt X (evS C (.whl c' b')) (stoB b')) :=
    (ps_while hp hc hb).of fun D σ H ⟨env, F, fl, env', ho, he, g⟩ => by
  have he : whL (evT C c') (evB C b') C.wf env = some (fl, env') := by simpa [evS] using he
  refine ⟨fun m σ1 H1 => ∃ e1 F1, Bst X σ H F (stoB b') σ1 H1 e1 F1 ∧ whL (evT C c') (evB C b') m e1 = some (fl, env'), ⟨C.wf, env, F, Bst.refl ho, he⟩, ?_⟩
  rintro m σ1 H1 ⟨e1, F1, b1, hw⟩
  cases m with
  | zero => cases hw
  | succ m =>
    unfold whL at hw
    split at hw
    · cases hw
    · rename_i e2 ht
      cases hw
      refine ⟨e1, F1, false, env', b1.ok, ht, fun k H2 F2 G2 a2 hk _ => ?_⟩
      subst hk
      rw [if_neg (by decide)]
      exact g σ1 H2 F2 (b1.trans (Bst.of (ix := []) a2) (fun i h => h) fun i h => by simp at h)
    · rename_i e2 ht
      refine ⟨e1, F1, true, e2, b1.ok, ht, fun k H2 F2 G2 a2 hk _ => ?_⟩
      subst hk
      rw [if_pos rfl]
      have b2 := b1.trans (Bst.of (ix := []) a2) (fun i h => h) (kx := stoB b') fun i h => by simp at h
      refine ⟨fun σ' H' => ∃ e3 F3, Bst X σ H F (stoB b') σ' H' e3 F3 ∧ whL (evT C c') (evB C b') m e3 = some (fl, env'), fun σ' H' h => ⟨m, Nat.lt_succ_self m, h⟩, ?_⟩
      split at hw
      · rename_i e3 hb'
        exact ⟨e2, F2, .next, e3, b2.ok, hb', fun σ3 H3 F3 b3 => ⟨e3, F3, b2.trans b3 (fun i h => h) (fun i h => h), hw⟩⟩
      · rename_i e3 hb'
        exact ⟨e2, F2, .cnt, e3, b2.ok, hb', fun σ3 H3 F3 b3 => ⟨e3, F3, b2.trans b3 (fun i h => h) (fun i h => h), hw⟩⟩
      · rename_i e3 hb'
        cases hw
        exact ⟨e2, F2, .brk, env', b2.ok, hb', fun σ3 H3 F3 b3 => g σ3 H3 F3 (b2.trans b3 (fun i h => h) (fun i h => h))⟩
      · rename_i r e3 hb'
        cases hw
        exact ⟨e2, F2, .ret r, env', b2.ok, hb', fun v σ3 H3 F3 G3 b3 x y z => g v σ3 H3 F3 G3 (b2.trans b3 (fun i h => h) (fun i h => h)) x (b2.back y) z⟩
      · cases hw
theorem fold_no {e : Expr} {env : Env} (h : (match e with | .Set _ _ _ => false | _ => true) = true) : ∀ x, foldedSetIterable e env x = pure x := by
  intro x
  cases e <;> first
    | rfl
    | cases h
theorem sFor {tg it : Expr} {b : List Stmt} {t : CT} {ci : CI} {b' : CB} (hp : PassesOwn (model X.prog X.w) X.A X.env X.xe) (hc : X.calm = true) (hN : X.N.Nodup) (hi : PI X tg it (TIt t X C ci)) (ht : TgS X tg t) (hs : ∀ x, foldedSetIterable it X.env x = pure x) (hb : PSs X b (TSt X (evB C b') (stoB b'))) :
    PS X (.For tg it b [] pos) (TSt X (evS C (.fo t ci b')) (stoS (.fo t ci b'))) := (ps_for hp hc hi (ht.pg hN hc) hb hs).of fun D σ H ⟨env, F, fl, env', ho, he, g⟩ => by
  simp only [evS] at he
  split at he
  · cases he
  · rename_i xs e1 hx
    have gi : stoS (.fo t ci b') = tgtIx t ++ stoB b' := by simp [stoS]
    rw [gi] at g
    generalize hK : tgtIx t ++ stoB b' = kx at g
    have kl : ∀ i ∈ tgtIx t, i ∈ kx := fun i h => hK ▸ mem_l i h
    have kr : ∀ i ∈ stoB b', i ∈ kx := fun i h => hK ▸ mem_r i h
    generalize hf : (fun x e => match setT t x e with
      | none => none
      | some e2 => evB C b' e2) = f at he
    refine ⟨env, F, xs, e1, ho, hx, fun J H1 F1 a1 wk => ?_⟩
    refine ⟨fun i m σ2 H2 => m = xs.length - i ∧ i ≤ xs.length ∧ ∃ e2 F2, Bst X σ H F kx σ2 H2 e2 F2 ∧ Stb H1 H2 ∧ foL f (xs.drop i) e2 = some (fl, env'), ⟨xs.length, by simp, Nat.zero_le _, e1, F1, Bst.of a1, Stb.refl _, by rw [List.drop_zero]; exact he⟩, ?_⟩
    rintro i m σ2 H2 ⟨rfl, hi, e2, F2, b2, s2, hw⟩
    obtain ⟨go, stop, yld⟩ := wk H2 s2
    by_cases hlt : i < xs.length
    · refine .inr ⟨go i hlt, fun σ' H' => ∃ m', m' < xs.length - i ∧ m' = xs.length - (i + 1) ∧ i + 1 ≤ xs.length ∧ ∃ e2 F2, Bst X σ H F kx σ' H' e2 F2 ∧ Stb H1 H' ∧ foL f (xs.drop (i + 1)) e2 = some (fl, env'), fun σ' H' h => h, fun x H3 hy => ?_⟩
      have hd : xs[i]? = some xs[i] := List.getElem?_eq_getElem hlt
      obtain ⟨s3, rI⟩ := yld i x H3 xs[i] hd hy
      have hdrop : xs.drop i = xs[i] :: xs.drop (i + 1) := by rw [List.drop_eq_getElem_cons hlt]
      rw [hdrop] at hw
      have k3 : ∀ a ∈ F2, H3 a = H2 a := fun a ha => by
        have := (b2.ok.foot a ha).ne
        cases e : H2 a with
        | none => exact absurd e this
        | some u => exact s3 a u e
      have ok3 := b2.ok.keep (Stb.of_same s3) k3
      have bx : Bst X σ2 H2 F2 [] σ2 H3 e2 F2 := ⟨ok3, fun a ha => .inl ha, fun b _ hn => by
        cases e : H2 b with
        | none => exact absurd e hn
        | some u => exact s3 b u e, fun b hn => by
        cases e : H2 b with
        | none => exact absurd e hn
        | some u => rw [s3 b u e]; simp, Stb.of_same s3, fun _ _ => rfl, rfl⟩
      have b3 := b2.trans bx (fun i h => h) (kx := kx) fun i h => by simp at h
      have hstep : ∃ ea, setT t xs[i] e2 = some ea ∧ f xs[i] e2 = evB C b' ea := by
        cases e : setT t xs[i] e2 with
        | none =>
          exfalso
          have : f xs[i] e2 = none := by rw [← hf]; show (match setT t xs[i] e2 with | none => none | some e2 => evB C b' e2) = none; rw [e]
          unfold foL at hw
          rw [this] at hw
          cases hw
        | some ea =>
          refine ⟨ea, rfl, ?_⟩
          rw [← hf]
          show (match setT t xs[i] e2 with | none => none | some e2 => evB C b' e2) = _
          rw [e]
      obtain ⟨ea, es, ef⟩ := hstep
      refine ⟨e2, F2, xs[i], ea, ok3, rI, es, fun σ4 F4 st => ?_⟩
      have hl4 : σ4.length = σ2.length := by
        have l1 := st.ok.length
        have l2 := ok3.length
        have : e2.length = ea.length := (setT_agree (t := t) (vs := tgtIx t) (fun _ z => z) es).1
        omega
      have b4' : Bst X σ2 H3 F2 (tgtIx t) σ4 H3 ea F4 := ⟨st.ok, fun b hb => .inl (st.sub b hb), But.refl _ _, fun _ z => z, Stb.refl _, st.out, hl4⟩
      have b4 := b3.trans b4' (fun i h => h) (kx := kx) kl
      have s4 : Stb H1 H3 := s2.trans (Stb.of_same s3)
      unfold foL at hw
      rw [ef] at hw
      split at hw
      · rename_i e5 hb'
        exact ⟨ea, F4, .next, e5, st.ok, hb', fun σ5 H5 F5 b5 => ⟨_, by omega, rfl, hlt, e5, F5, b4.trans b5 (fun i h => h) kr, s4.trans b5.stb, hw⟩⟩
      · rename_i e5 hb'
        exact ⟨ea, F4, .cnt, e5, st.ok, hb', fun σ5 H5 F5 b5 => ⟨_, by omega, rfl, hlt, e5, F5, b4.trans b5 (fun i h => h) kr, s4.trans b5.stb, hw⟩⟩
      · rename_i e5 hb'
        cases hw
        exact ⟨ea, F4, .brk, env', st.ok, hb', fun σ5 H5 F5 b5 => g σ5 H5 F5 (b4.trans b5 (fun i h => h) kr)⟩
      · rename_i r e5 hb'
        cases hw
        exact ⟨ea, F4, .ret r, env', st.ok, hb', fun v σ5 H5 F5 G5 b5 x y z => g v σ5 H5 F5 G5 (b4.trans b5 (fun i h => h) kr) x (b4.back y) z⟩
      · cases hw
    · have e : i = xs.length := by omega
      subst e
      rw [List.drop_length] at hw
      have hw : some (Fl.next, e2) = some (fl, env') := hw
      cases hw
      exact .inl ⟨stop, g σ2 H2 F2 b2⟩
end
end EV

set_option Elab.async false
set_option linter.all false
set_option maxRecDepth 100000
set_option maxHeartbeats 1000000
/-! EV30: o[k] = e, name += e (own work, over the hand layer's rules). -/
namespace EV
open PySem PySem.Spec PyProof.Rows L2
section
variable {X : Cx} {C : Cfg} {pos : Pos}
theorem set_any (hu : X.A.units + 1 < cLine) : PSet X (fun o i v H Q => rSetL o i v H Q ∨ rSetD o i v H Q) := by
  intro pins s σ H o i v ov iv u Q I ro ri rv h
  rcases h with h | h
  · exact set_list pins s σ H o i v ov iv u Q I ro ri rv h
  · exact set_dict hu pins s σ H o i v ov iv u Q I ro ri rv h
theorem ixN_lt {n : Nat} {i : Int} {j : Nat} (h : ixN n i = some j) : j < n := by
  unfold ixN at h
  split at h
  · split at h
    · cases h; omega
    · cases h
  · split at h
    · cases h; omega
    · cases h
/-- an own dict gets another pair -/
theorem dct_chg {H : Hp} {F1 F2 New : List Addr} {a : Addr} {kvs kvs' : List (Key × V)} {kos kos' : List (Key × O)} (h : Ow X.prog X.w X.K H (.ref a) (.dct kos) F1) (e : H a = some (.dK kvs))
    (h2 : Owk X.prog X.w X.K H kvs' kos' F2) (nd : (kos'.map (·.1)).Nodup) (s2 : ∀ b ∈ F2, (b ∈ F1 ∧ b ≠ a) ∨ b ∈ New) (hn : a ∉ New) : Chg X H F1 (.ref a) (upd H a (.dK kvs')) (.dct kos') New := by
  cases h with
  | @dct _ ws _ F h1 h3 h4 h5 =>
    rw [e] at h1
    cases h1
    have na : a ∉ F2 := fun z => by
      rcases s2 a z with ⟨_, q⟩ | q
      · exact q rfl
      · exact hn q
    have st : Stb H (upd H a (.dK kvs')) := (upd_but (F := [a]) List.mem_cons_self).stb fun c hc => by
      rcases List.mem_singleton.mp hc with rfl
      exact .inr ⟨_, e⟩
    refine ⟨upd_but List.mem_cons_self, upd_nn, a :: F2, .dct upd_same (Owk.keep st kos' h2 fun b hb => upd_ne fun z => na (z ▸ hb)) na nd, fun b hb => ?_⟩
    rcases List.mem_cons.mp hb with rfl | hb
    · exact .inl List.mem_cons_self
    · exact (s2 b hb).imp (·.1) id
/-- the store at a place, by values -/
theorem set_at {H : Hp} {F : List Addr} {v x : V} {o1 o2 ov : O} {k : D} {y : V} {G : List Addr} {F1 : List Addr} (ow : Ow X.prog X.w X.K H v o1 F1) (hx : Ow X.prog X.w X.K H x ov G) (off : ∀ a ∈ G, a ∉ F1) (hk : Rs X H y k) (e : setAt o1 k ov = some o2) :
    ∃ H', (∀ Q : Hp → Prop, Q H' → rSetL v y x H Q ∨ rSetD v y x H Q) ∧ ∀ F1, Ow X.prog X.w X.K H v o1 F1 → (∀ a ∈ G, a ∉ F1) → Chg X H F1 v H' o2 G := by
  cases ow with
  | imm h => cases k <;> cases e
  | @lst a vs os F h1 h2 h3 =>
    cases k with
    | int i =>
      obtain ⟨j, hj, rfl⟩ := Option.map_eq_some_iff.mp (show (ixN os.length i).map (fun j => O.lst (os.set j ov)) = some o2 from e)
      cases hk
      have hl := h2.length
      refine ⟨_, fun Q q => .inl ⟨a, vs, i, j, rfl, rfl, h1, by rw [hl]; exact hj, q⟩, fun F1 ow1 off1 => ?_⟩
      obtain ⟨Fy, rfl, hy, ny⟩ := ow_lst ow1 h1
      obtain ⟨v1, Fj, e1, ow2, sub, rp⟩ := hy.at (List.getElem?_eq_getElem (ixN_lt hj))
      obtain ⟨F', r1, r2⟩ := rp H x ov G (Stb.refl _) (fun _ _ _ => rfl) hx fun b hb => .inr fun z => off1 b hb (List.mem_cons_of_mem _ z)
      refine lst_chg ow1 h1 r1 (fun b hb => ?_) fun z => off1 a z List.mem_cons_self
      rcases r2 b hb with z | ⟨z, _⟩
      · exact .inr z
      · exact .inl ⟨List.mem_cons_of_mem _ z, fun w => ny (w ▸ z)⟩
    | _ => cases e
  | @dct a kvs kos F h1 h2 h3 h4 =>
    have e : (dK k).bind (fun q => if kos.length < sizeLine then some (O.dct (putO kos q ov)) else none) = some o2 := by
      cases k <;> exact e
    obtain ⟨q, hq, e⟩ := Option.bind_eq_some_iff.mp e
    split at e
    · rename_i hz
      cases e
      obtain rfl := key_rel (Rl.weak _ hk) hq
      have hkl : kvs.length < sizeLine := by
        have := congrArg List.length h2.keys
        rw [List.length_map, List.length_map] at this
        omega
      refine ⟨_, fun Q qq => .inr ⟨a, upd H a (.dK (putK kvs q x)), rfl, .inl ⟨kvs, q, h1, rfl, hkl, rfl⟩, qq⟩, fun F1 ow1 off1 => ?_⟩
      cases ow1 with
      | @dct _ kvs2 _ Fy g1 g2 g3 g4 =>
        have g1' := g1
        rw [h1] at g1'
        cases g1'
        obtain ⟨F', r1, r2, r3⟩ := g2.put (q := q) g4 hx fun b hb hG => off1 b hG (List.mem_cons_of_mem _ hb)
        refine dct_chg (.dct g1 g2 g3 g4) h1 r1 r2 (fun b hb => ?_) fun z => off1 a z List.mem_cons_self
        rcases r3 b hb with z | z
        · exact .inl ⟨List.mem_cons_of_mem _ z, fun w => g3 (w ▸ z)⟩
        · exact .inr z
    · cases e
theorem plain_ix {k : Expr} (h : notSlice k = true) : PlainIx k := by
  cases k <;> first
    | exact fun _ _ => rfl
    | cases h
theorem sPut {o k e : Expr} {p : Pos} {k' e' : CE} {i : Nat} {path : CL} (hu : X.A.units + 1 < cLine) (hs : notSlice k = true) (ho : PE X o (TPl X C i path)) (hk : PE X k (TEv X C k')) (he : PE X e (TEv X C e')) :
    PS X (.Assign [.Subscript o k p] e pos) (TSt X (evS C (.put i path k' e')) []) := by
  have hg : PG X (.Subscript o k p) _ := pg_sub (t := fun o i v H Q => rSetL o i v H Q ∨ rSetD o i v H Q) ho hk.op (set_any hu) (by
    intro v
    cases k <;> first
      | rfl
      | cases hs)
  refine (ps_asg he hg (by cases e <;> rfl) rfl).of fun D σ H ⟨env, F, fl, env', hok, hh, g⟩ => ?_
  simp only [evS] at hh
  split at hh
  · cases hh
  · rename_i r e1 hr
    split at hh
    · cases hh
    · rename_i ps e2 hp
      obtain ⟨ks, hks, hh⟩ := Option.bind_eq_some_iff.mp hh
      split at hh
      · rename_i hcnd
        rw [Bool.and_eq_true, Bool.and_eq_true, Bool.or_eq_true] at hcnd
        obtain ⟨⟨hpu, hem⟩, hpl⟩ := hcnd
        obtain ⟨o1, hpl⟩ := Option.isSome_iff_exists.mp hpl
        split at hh
        · rename_i kd e3 hkd
          split at hh
          · rename_i oo eo
            obtain ⟨ov, hov, hh⟩ := Option.bind_eq_some_iff.mp hh
            obtain ⟨oa, hoa, hh⟩ := Option.bind_eq_some_iff.mp hh
            obtain ⟨o2, ho2, hh⟩ := Option.bind_eq_some_iff.mp hh
            obtain ⟨o3, ho3, hh⟩ := Option.map_eq_some_iff.mp hh
            cases hh
            refine ⟨env, F, r, e1, hok, hr, fun x H1 F1 G1 a1 r1 p1 => ⟨e1, F1, ps, e2, ks, o1, a1.ok, hp, hpu, hks, hpl, fun v H2 F2 a2 ⟨v0, ev0, pth⟩ => ⟨e2, F2, _, e3, a2.ok, hkd, fun y H3 F3 G3 a3 o3' _ => ?_⟩⟩⟩
            obtain ⟨_, nb⟩ := toO_ow r1 hov
            have nb' : ∀ {P : Prop}, r.isBrw = true → P := fun z => by rw [nb] at z; cases z
            obtain ⟨r2, off2⟩ := r1.keep a2 p1.off nb'
            obtain ⟨r3, off3⟩ := r2.keep a3 off2 nb'
            obtain ⟨ow, _⟩ := toO_ow r3 hov
            have pth3 := pth_then a2.ok a3 hks hem hpl ev0 pth
            have a13 := (a1.trans a2 (r := false) fun z => nomatch z).trans a3 (r := false) fun z => nomatch z
            -- the object at the place
            obtain ⟨x0, Gs, es, s1, sub, _⟩ := a3.ok.at eo
            obtain ⟨v0', rfl, owr⟩ := s1
            rw [ev0] at es
            cases es
            obtain ⟨v1, F4, pm, owm, sub4, _⟩ := owr.path hoa
            obtain rfl := pm.uniq pth3
            obtain ⟨H', st, chg⟩ := set_at (F := F) owm ow (fun b hb z => off3 b hb (sub b (sub4 b z))) (show Rs X H3 y kd from o3'.2) ho2
            obtain ⟨F', af⟩ := place_chg (New := G1) a13 eo hoa ho3 ev0 pth3 off3 p1.sub fun Fx owx subx => chg Fx owx fun b hb z => off3 b hb (subx b z)
            exact st _ (g σ H' F' (Bst.of af))
          · cases hh
        · cases hh
      · cases hh
theorem sAug {x : Str} {p : Pos} {i : Nat} {e : Expr} {e' : CE} {op : Operator} {bo : BOp} (hN : X.N.Nodup) (hi : X.N[i]? = some x) (hx : Loc X.env.scope x) (hf : X.fn x = true ∨ X.env.scope.names.lookup x = some .local) (ho : cOp op = some bo) (he : PE X e (TEv X C e')) :
    PS X (.AugAssign (.Name x p) op e pos) (TSt X (evS C (.aug i bo e')) [i]) := by
  have go : ∀ {ti : TIp}, (∀ {σ : L2.St} {H : Hp} {D : Ends}, TSt X (evS C (.aug i bo e')) [i] D σ H → tAug i (TOp X C e') ti D σ H) → PIp X op ti → PS X (.AugAssign (.Name x p) op e pos) (TSt X (evS C (.aug i bo e')) [i]) := fun h1 h2 => (ps_aug hN hi hx he.op h2 hf).of fun D σ H h => h1 h
  have rd : ∀ {f : Int → Int → Int} {σ : L2.St} {H : Hp} {D : Ends}, (∀ a b r, binR bo (.int a) (.int b) = some r → r = .val (.int (f a b))) → TSt X (evS C (.aug i bo e')) [i] D σ H → tAug i (TOp X C e') (ipI f) D σ H := by
    intro f σ H D hf ⟨env, F, fl, env', hok, hh, g⟩
    simp only [evS] at hh
    split at hh
    · split at hh
      · rename_i a ea
        split at hh
        · rename_i b e1 hb
          split at hh
          · rename_i d hd
            cases hh
            obtain ⟨x1, G, es, s1, sub, _⟩ := hok.at ea
            obtain ⟨_, v, rfl, rl⟩ := s1
            cases rl
            have hd' := hf a b _ hd
            cases hd'
            refine ⟨.int a, es, env, F, _, e1, hok, hb, fun y H1 F1 G1 a1 o1 _ => ?_⟩
            have hy : Rs X H1 y (.int b) := o1.2
            cases hy
            refine ⟨a, b, rfl, rfl, ?_⟩
            obtain ⟨F2, bs⟩ := put_val (i := i) (v := .int (f a b)) a1 (.int _)
            exact g _ H1 F2 bs
          · cases hh
        · cases hh
      · cases hh
    · cases hh
  by_cases h1 : bo = .add
  · subst h1
    cases op <;> cases ho
    exact go (rd fun a b r h => by cases h; rfl) ip_add
  · by_cases h2 : bo = .sub
    · subst h2
      cases op <;> cases ho
      exact go (rd fun a b r h => by cases h; rfl) ip_sub
    · refine ⟨fun pins s σ H D I ⟨env, F, fl, env', hok, hh, g⟩ => ?_⟩
      simp only [evS] at hh
      rw [if_neg (by simp [h1, h2])] at hh
      cases hh
end
end EV

set_option Elab.async false
set_option linter.all false
set_option maxRecDepth 100000
set_option maxHeartbeats 1000000
/-! EV31: a, b = x, y (own work, over the hand layer's rules). -/
namespace EV
open PySem PySem.Spec PyProof.Rows L2
theorem sw_of {env : Env} {ts vs : List Expr} {k k2 : Nat} {p p2 : Pos} {b : Bool} (hf : env.blockKind = .function) (h : swK env.scope ts vs = some b) : swappedStores [.Tuple ts k p] (.Tuple vs k2 p2) env = pure (if b then some (swNames env.scope ts) else none) := by
  have hk : (env.blockKind != .function) = false := by rw [hf]; rfl
  unfold swK at h
  unfold swappedStores
  simp only [hk, Bool.or_false, pure_bind]
  split at h
  · rename_i c
    cases h
    rw [if_pos c]
    rfl
  · rename_i c
    rw [if_neg c]
    split at h
    · cases h
    · rename_i c2
      refine Eq.trans (if_neg (c := vs.any isSt = true) c2) ?_
      split at h
      · rename_i c3
        cases h
        exact if_pos (c := ((swNames env.scope ts).length != ts.length || (swNames env.scope ts).eraseDups.length != (swNames env.scope ts).length) = true) c3
      · rename_i c3
        refine Eq.trans (if_neg (c := ((swNames env.scope ts).length != ts.length || (swNames env.scope ts).eraseDups.length != (swNames env.scope ts).length) = true) c3) ?_
        split at h
        · rename_i c4
          cases h
          rw [if_pos c4]
          rfl
        · rename_i c4
          rw [if_neg c4]
          split at h
          · cases h
          · rename_i c5
            cases h
            rw [if_neg c5]
            rfl
theorem dups_le : ∀ (n : Nat) (l : List Str), l.length ≤ n → l.eraseDups.length ≤ l.length
  | _, [], _ => by simp
  | 0, _ :: _, h => by simp at h
  | n + 1, x :: l, h => by
    rw [List.eraseDups_cons, List.length_cons, List.length_cons]
    have h1 : (l.filter fun b => !b == x).length ≤ l.length := List.length_filter_le _ _
    have h2 := dups_le n (l.filter fun b => !b == x) (by rw [List.length_cons] at h; omega)
    omega
theorem dups_nd : ∀ (l : List Str), l.eraseDups.length = l.length → l.Nodup
  | [], _ => List.nodup_nil
  | x :: l, h => by
    rw [List.eraseDups_cons, List.length_cons, List.length_cons] at h
    have h1 : (l.filter fun b => !b == x).length ≤ l.length := List.length_filter_le _ _
    have h2 := dups_le _ (l.filter fun b => !b == x) (Nat.le_refl _)
    have h3 : (l.filter fun b => !b == x).length = l.length := by omega
    have h4 : (l.filter fun b => !b == x) = l := List.filter_eq_self.mpr (List.length_filter_eq_length_iff.mp h3)
    rw [h4] at h
    refine List.nodup_cons.mpr ⟨fun hm => ?_, dups_nd l (by omega)⟩
    have := List.length_filter_eq_length_iff.mp h3 x hm
    simp at this
theorem ite_or {α : Type} {c : Bool} {a b : α} : (if c = true then a else b) = a ∨ (if c = true then a else b) = b := by
  cases c
  · exact .inr rfl
  · exact .inl rfl
theorem sw_true {sc : Scope} {ts vs : List Expr} (h : swK sc ts vs = some true) : (ts.length = 2 ∨ ts.length = 3) ∧ vs.length = ts.length ∧ (swNames sc ts).length = ts.length ∧ (swNames sc ts).eraseDups.length = (swNames sc ts).length := by
  unfold swK at h
  split at h
  · cases h
  · rename_i c
    split at h
    · cases h
    · split at h
      · cases h
      · rename_i c3
        simp only [Bool.or_eq_true, Bool.not_eq_true', Bool.or_eq_false_iff, bne_iff_ne, not_or, not_and, Decidable.not_not, beq_eq_false_iff_ne, ne_eq, not_true_eq_false, beq_iff_eq] at c c3
        refine ⟨?_, c.2, c3.1, c3.2⟩
        have := c.1
        omega
theorem names2 {sc : Scope} {x y : Str} {p q : Pos} (h : (swNames sc [.Name x p, .Name y q]).length = 2) : swNames sc [.Name x p, .Name y q] = [x, y] ∧ sc.names.lookup x = some .local ∧ sc.names.lookup y = some .local := by
  unfold swNames at h ⊢
  simp only [List.filterMap_cons, List.filterMap_nil] at h ⊢
  split at h
  · split at h <;> simp at h
  · rename_i a ha
    split at h
    · simp at h
    · rename_i b hb
      split at ha
      · rename_i ca
        split at hb
        · rename_i cb
          cases ha
          cases hb
          simp only [Bool.and_eq_true, beq_iff_eq] at ca cb
          exact ⟨rfl, ca.1, cb.1⟩
        · cases hb
      · cases ha
theorem names3 {sc : Scope} {x y z : Str} {p q r : Pos} (h : (swNames sc [.Name x p, .Name y q, .Name z r]).length = 3) : swNames sc [.Name x p, .Name y q, .Name z r] = [x, y, z] ∧ sc.names.lookup x = some .local ∧ sc.names.lookup y = some .local ∧ sc.names.lookup z = some .local := by
  unfold swNames at h ⊢
  simp only [List.filterMap_cons, List.filterMap_nil] at h ⊢
  split at h
  · split at h <;> split at h <;> simp at h
  · rename_i a ha
    split at h
    · split at h <;> simp at h
    · rename_i b hb
      split at h
      · simp at h
      · rename_i c hc
        split at ha
        · rename_i ca
          split at hb
          · rename_i cb
            split at hc
            · rename_i cc
              cases ha
              cases hb
              cases hc
              simp only [Bool.and_eq_true, beq_iff_eq] at ca cb cc
              exact ⟨rfl, ca.1, cb.1, cc.1⟩
            · cases hc
          · cases hb
        · cases ha
section
variable {X : Cx} {C : Cfg} {pos : Pos}
def setS : L2.St → List (Nat × Bool) → List V → L2.St
  | σ, (i, _) :: t, v :: vs => setS (σ.set i (some v)) t vs
  | σ, _, _ => σ
theorem setS_len : ∀ {own : List (Nat × Bool)} {vs : List V} {σ : L2.St}, (setS σ own vs).length = σ.length
  | [], _, _ => rfl
  | _ :: _, [], _ => rfl
  | (i, b) :: t, v :: vs, σ => by
    show (setS (σ.set i (some v)) t vs).length = _
    rw [setS_len, List.length_set]
theorem setS_out : ∀ {own : List (Nat × Bool)} {vs : List V} {σ : L2.St} {j : Nat}, j ∉ own.map (·.1) → (setS σ own vs)[j]? = σ[j]?
  | [], _, _, _, _ => rfl
  | _ :: _, [], _, _, _ => rfl
  | (i, b) :: t, v :: vs, σ, j, h => by
    show (setS (σ.set i (some v)) t vs)[j]? = _
    rw [List.map_cons, List.mem_cons] at h
    rw [setS_out fun z => h (.inr z), List.getElem?_set_ne fun z => h (.inl z.symm)]
theorem rvs_len {H : Hp} {F : List Addr} : ∀ {vs : List V} {rs : List RV} {G : List Addr}, RvsO X H F vs rs G → vs.length = rs.length
  | _, _, _, .nil => rfl
  | _, _, _, .cons _ t _ => by simp [rvs_len t]
/-- each value to its slot -/
theorem par_raw {H : Hp} {F0 : List Addr} : ∀ {own : List (Nat × Bool)} {rs : List RV} {vs : List V} {σ : L2.St} {env e2 : Ev} {F G : List Addr}, EnvOk X.prog X.w X.K H σ env F → RvsO X H F0 vs rs G → (∀ a ∈ G, a ∉ F) → parOk own rs = true → parL own rs env = some e2 →
    own.length = vs.length ∧ ∃ F', EnvOk X.prog X.w X.K H (setS σ own vs) e2 F' ∧ ∀ a ∈ F', a ∈ F ∨ a ∈ G
  | [], rs, vs, σ, env, e2, F, G, ok, h, d, po, hp => by
    cases rs with
    | nil =>
      cases h
      have hp : some env = some e2 := hp
      cases hp
      exact ⟨rfl, F, ok, fun a ha => .inl ha⟩
    | cons r rs => cases hp
  | (i, b) :: t, rs, vs, σ, env, e2, F, G, ok, h, d, po, hp => by
    cases h with
    | nil => cases b <;> cases hp
    | @cons v r vs rs G1 G2 h1 h2 h3 =>
      have step : ∀ (sl : Sl), SlOk X.prog X.w X.K H (some v) (some sl) G1 → parOk t rs = true → parL t rs (env.set i (some sl)) = some e2 → ((i, b) :: t).length = (v :: vs).length ∧ ∃ F', EnvOk X.prog X.w X.K H (setS σ ((i, b) :: t) (v :: vs)) e2 F' ∧ ∀ a ∈ F', a ∈ F ∨ a ∈ G1 ++ G2 := by
        intro sl hs po' hp'
        obtain ⟨F1, r1, r2⟩ := ok.put i (x' := some v) (sl' := some sl) hs fun a ha => d a (List.mem_append_left _ ha)
        obtain ⟨l, F2, s1, s2⟩ := par_raw r1 h2 (fun a ha hb => by
          rcases r2 a hb with z | z
          · exact h3 a z ha
          · exact d a (List.mem_append_right _ ha) z) po' hp'
        refine ⟨by rw [List.length_cons, List.length_cons, l], F2, s1, fun a ha => ?_⟩
        rcases s2 a ha with z | z
        · exact (r2 a z).elim (fun q => .inr (List.mem_append_left _ q)) .inl
        · exact .inr (List.mem_append_right _ z)
      match b, r, h1, po, hp with
      | false, .val dd, h1, po, hp =>
        obtain ⟨q1, q2⟩ := h1
        exact step (.val dd) ⟨q1, v, rfl, q2⟩ po hp
      | true, .val dd, h1, po, hp =>
        obtain ⟨q1, q2⟩ := h1
        exact step (.val dd) ⟨q1, v, rfl, q2⟩ po hp
      | true, .own o, h1, po, hp => exact step (.own o) ⟨v, rfl, h1⟩ po hp
theorem par_frz {H : Hp} {F0 : List Addr} : ∀ {own : List (Nat × Bool)} {rs : List RV} {vs : List V} {σ : L2.St} {env e2 : Ev} {F : List Addr}, EnvOk X.prog X.w X.K H σ env F → OpsOk X H F0 vs rs → own.all (fun p => !p.2) = true → parL own rs env = some e2 →
    own.length = vs.length ∧ ∃ F', EnvOk X.prog X.w X.K H (setS σ own vs) e2 F' ∧ ∀ a ∈ F', a ∈ F
  | [], rs, vs, σ, env, e2, F, ok, h, _, hp => by
    cases rs with
    | nil =>
      cases h
      have hp : some env = some e2 := hp
      cases hp
      exact ⟨rfl, F, ok, fun a ha => ha⟩
    | cons r rs => cases hp
  | (i, b) :: t, rs, vs, σ, env, e2, F, ok, h, al, hp => by
    rw [List.all_cons, Bool.and_eq_true] at al
    cases b with
    | true => exact absurd al.1 (by simp)
    | false =>
      cases h with
      | nil => cases hp
      | @cons v r vs rs h1 h2 =>
        obtain ⟨d, hk, hp⟩ := Option.bind_eq_some_iff.mp (show (r.keep.bind fun d => parL t rs (env.set i (some (.val d)))) = some e2 from hp)
        obtain ⟨F1, r1, r2⟩ := ok.put i (x' := some v) (sl' := some (.val d)) (G' := []) ⟨rfl, v, rfl, h1.kept hk⟩ fun a h => by simp at h
        obtain ⟨l, F2, s1, s2⟩ := par_frz r1 h2 al.2 hp
        exact ⟨by rw [List.length_cons, List.length_cons, l], F2, s1, fun a ha => (r2 a (s2 a ha)).elim (fun z => by simp at z) id⟩
/-- the reading of a, b, .. = x, y, .. -/
theorem par_rd {own : List (Nat × Bool)} {es : CL} {σ : L2.St} {H : Hp} {D : Ends} (h : TSt X (evS C (.par own es)) (own.map (·.1)) D σ H) :
    (if own.all (fun p => !p.2) = true then TLo X C es else TLr X C es) σ H fun vs H1 => own.length = vs.length ∧ ∀ H2, Same H1 H2 → D.nx (setS σ own vs) H2 := by
  obtain ⟨env, F, fl, env', ho, hh, g⟩ := h
  simp only [evS] at hh
  split at hh
  · cases hh
  · rename_i rs e1 hr
    split at hh
    · rename_i hc
      rw [Bool.and_eq_true, Bool.or_eq_true] at hc
      obtain ⟨e2, hp, ee⟩ := Option.map_eq_some_iff.mp hh
      cases ee
      have fin : ∀ {H1 : Hp} {F1 F' : List Addr} {vs : List V}, Aft X σ (pureL es) H env F H1 e1 F1 → EnvOk X.prog X.w X.K H1 (setS σ own vs) env' F' → (∀ a ∈ F', a ∈ F ∨ H a = none) → ∀ H2, Same H1 H2 → D.nx (setS σ own vs) H2 := by
        intro H1 F1 F' vs a1 ok sb H2 sm
        have k : ∀ a ∈ F', H2 a = H1 a := fun a ha => by
          have := (ok.foot a ha).ne
          cases e : H1 a with
          | none => exact absurd e this
          | some u => exact sm a u e
        have k2 : ∀ b, H1 b ≠ none → H2 b = H1 b := fun b hn => by
          cases e : H1 b with
          | none => exact absurd e hn
          | some u => exact sm b u e
        exact g _ H2 F' ⟨ok.keep (Stb.of_same sm) k, sb, fun b hb hn => by rw [k2 b (a1.nn b hn)]; exact a1.but b hb hn, fun b hn => by rw [k2 b (a1.nn b hn)]; exact a1.nn b hn, a1.stb.trans (Stb.of_same sm), fun j hj => setS_out hj, setS_len⟩
      by_cases hall : own.all (fun p => !p.2) = true
      · rw [if_pos hall]
        refine ⟨env, F, rs, e1, ho, tlo_of hr hc.1, fun vs H1 F1 G1 a1 o1 _ => ?_⟩
        obtain ⟨l, F', r1, r2⟩ := par_frz a1.ok o1.2 hall hp
        exact ⟨l, fin a1 r1 fun a ha => a1.sub a (r2 a ha)⟩
      · rw [if_neg hall]
        refine ⟨env, F, rs, e1, ho, tlo_of hr hc.1, fun vs H1 F1 G1 a1 o1 p1 => ?_⟩
        obtain ⟨l, F', r1, r2⟩ := par_raw a1.ok o1 p1.off (hc.2.resolve_left hall) hp
        exact ⟨l, fin a1 r1 fun a ha => (r2 a ha).elim (a1.sub a) (p1.sub a)⟩
    · cases hh
/-- the targets of such a statement -/
inductive ParS (X : Cx) : List Expr → List (Nat × Bool) → Prop
  | nil : ParS X [] []
  | cons {x : Str} {p : Pos} {i : Nat} {b : Bool} {ts : List Expr} {own : List (Nat × Bool)} : X.N[i]? = some x → Loc X.env.scope x → (X.fn x = true ∨ X.env.scope.names.lookup x = some .local) → ParS X ts own → ParS X (.Name x p :: ts) ((i, b) :: own)
theorem ParS.len : ∀ {ts : List Expr} {own : List (Nat × Bool)}, ParS X ts own → ts.length = own.length ∧ ts.all notStar = true
  | _, _, .nil => ⟨rfl, rfl⟩
  | _, _, .cons _ _ _ t => by
    obtain ⟨h1, h2⟩ := ParS.len t
    exact ⟨by rw [List.length_cons, List.length_cons, h1], by rw [List.all_cons, h2]; rfl⟩
theorem ParS.pgs (hN : X.N.Nodup) : ∀ {ts : List Expr} {own : List (Nat × Bool)}, ParS X ts own → PGs X ts (fun vs σ H Q => own.length = vs.length ∧ Q (setS σ own vs) H)
  | _, _, .nil => PGs.of pgs_nil fun vs σ H Q ⟨l, q⟩ => by
    cases vs with
    | nil => exact ⟨rfl, q⟩
    | cons _ _ => cases l
  | _, _, @ParS.cons _ x p i b ts own h1 h2 h3 t => PGs.of (pgs_cons (pg_name hN h1 h2 h3) (ParS.pgs hN t) rfl) fun vs σ H Q ⟨l, q⟩ => by
    cases vs with
    | nil => cases l
    | cons v vs => exact ⟨v, vs, rfl, by simpa using l, q⟩
theorem sPar {ts es : List Expr} {k k2 : Nat} {p p2 : Pos} {own : List (Nat × Bool)} {es' : CL} {b : Bool} (hN : X.N.Nodup) (hc : X.calm = true) (hf : X.env.blockKind = .function) (hp : ParS X ts own) (hsw : swK X.env.scope ts es = some b) (hl : ts.length ≤ 1000)
    (h1 : PA X es (TLo X C es')) (h2 : PA X es (TLr X C es')) : PS X (.Assign [.Tuple ts k p] (.Tuple es k2 p2) pos) (TSt X (evS C (.par own es')) (own.map (·.1))) := by
  have ha : PA X es (if own.all (fun p => !p.2) = true then TLo X C es' else TLr X C es') := by
    split
    · exact h1
    · exact h2
  have sw := sw_of (k := k) (k2 := k2) (p := p) (p2 := p2) hf hsw
  obtain ⟨ln, st⟩ := hp.len
  cases b with
  | false =>
    refine (ps_asg (pe_tup ha) (pg_tup (n := ts.length) hc (hp.pgs hN) each_len (each_star st)) swaps_tup sw).of fun D σ H h => ?_
    have r := par_rd h
    have mono : ∀ {ta : TA} {R R' : List V → Hp → Prop}, (ta = TLo X C es' ∨ ta = TLr X C es') → (∀ vs H, R vs H → R' vs H) → ta σ H R → ta σ H R' := by
      rintro ta R R' (rfl | rfl) hi ⟨env, F, rs, e1, ho, he, q⟩
      · exact ⟨env, F, rs, e1, ho, he, fun b H' F' G a b' c => hi _ _ (q b H' F' G a b' c)⟩
      · exact ⟨env, F, rs, e1, ho, he, fun b H' F' G a b' c => hi _ _ (q b H' F' G a b' c)⟩
    refine mono ite_or (fun vs H1 hh => ?_) r
    obtain ⟨l, q⟩ := hh
    exact ⟨by rw [← l, ← ln, sizeLine_eq]; omega, fun p hp => ⟨p, vs, rfl, SqT.of upd_same, by rw [← l, ln], l, q _ (same_new hp)⟩⟩
  | true =>
    have mono : ∀ {ta : TA} {σ : L2.St} {H : Hp} {R R' : List V → Hp → Prop}, (ta = TLo X C es' ∨ ta = TLr X C es') → (∀ vs H, R vs H → R' vs H) → ta σ H R → ta σ H R' := by
      rintro ta σ H R R' (rfl | rfl) hi ⟨env, F, rs, e1, ho, he, q⟩
      · exact ⟨env, F, rs, e1, ho, he, fun b H' F' G a b' c => hi _ _ (q b H' F' G a b' c)⟩
      · exact ⟨env, F, rs, e1, ho, he, fun b H' F' G a b' c => hi _ _ (q b H' F' G a b' c)⟩
    obtain ⟨hlen, hes, hnm, hdup⟩ := sw_true hsw
    have sw : swappedStores [.Tuple ts k p] (.Tuple es k2 p2) X.env = pure (some (swNames X.env.scope ts)) := sw
    have ne : ∀ {i j : Nat} {x y : Str}, X.N[i]? = some x → X.N[j]? = some y → x ≠ y → i ≠ j := fun h1 h2 h3 z => by
      subst z
      rw [h1] at h2
      exact h3 (Option.some.inj h2)
    cases hp with
    | nil => rcases hlen with z | z <;> cases z
    | @cons x p1 i b1 ts own i1 l1 f1 hp =>
      cases hp with
      | nil => rcases hlen with z | z <;> cases z
      | @cons y p2' j b2 ts own i2 l2 f2 hp =>
        cases hp with
        | nil =>
          match es, hes with
          | [a, b], _ =>
            obtain ⟨e0, c1, c2⟩ := names2 hnm
            rw [e0] at sw hdup
            have nd := dups_nd _ hdup
            have hxy : x ≠ y := fun z => by subst z; simp at nd
            refine (ps_par hc hN i1 i2 (ne i1 i2 hxy) c1 c2 ha sw swaps_tup).of fun D σ H h => mono ite_or (fun vs H1 hh => ?_) (par_rd h)
            obtain ⟨l, q⟩ := hh
            match vs, l, q with
            | [v, w], _, q => exact ⟨v, w, rfl, q H1 (Same.refl _)⟩
        | @cons z p3 l b3 ts own i3 l3 f3 hp =>
          cases hp with
          | cons _ _ _ _ => rcases hlen with z | z <;> simp at z
          | nil =>
            match es, hes with
            | [a, b, c], _ =>
              obtain ⟨e0, c1, c2, c3⟩ := names3 hnm
              rw [e0] at sw hdup
              have nd := dups_nd _ hdup
              have hxy : x ≠ y := fun q => by subst q; simp at nd
              have hxz : x ≠ z := fun q => by subst q; simp at nd
              have hyz : y ≠ z := fun q => by subst q; simp at nd
              refine (ps_par3 hc hN i1 i2 i3 (ne i1 i2 hxy) (ne i1 i3 hxz) (ne i2 i3 hyz) c1 c2 c3 ha sw swaps_tup).of fun D σ H h => mono ite_or (fun vs H1 hh => ?_) (par_rd h)
              obtain ⟨l, q⟩ := hh
              match vs, l, q with
              | [v, w, u], _, q => exact ⟨v, w, u, rfl, q H1 (Same.refl _)⟩
end
end EV

set_option Elab.async false
set_option linter.all false
set_option maxRecDepth 100000
set_option maxHeartbeats 1000000
/-! EV32: the context of a body; of a comprehension's block (own work). -/
namespace EV
open PySem PySem.Spec PyProof.Rows L2
def bltNames : List Str := ["len", "int", "tuple", "list", "max", "min", "abs", "sum", "any", "all", "repr", "bool", "str", "dict", "isinstance", "range", "enumerate", "zip"]
structure CtxOk (X : Cx) (c : Cc) (C : Cfg) : Prop where
  nd : X.N.Nodup
  nN : X.N = c.N
  calm : X.calm = true
  room : Roomy X
  slot : ∀ x i, c.slot x = some i → X.N[i]? = some x ∧ Vis X.env.scope x
  loc : ∀ x i, c.loc x = some i → X.N[i]? = some x ∧ Loc X.env.scope x ∧ (X.fn x = true ∨ X.env.scope.names.lookup x = some .local)
  gl : ∀ x, c.isGl x = true → Gl X x
  blk : ∀ sc own, blkC c.N c.sc sc own = true → BlkOk X.N X.env.scope sc own
  free : ∀ x, x ∈ bltNames → c.fns.contains x = false → c.glb.contains x = false → X.mg x = none
  glo : ∀ x, c.glb.contains x = true → ∃ u v d, X.mg x = some u ∧ RelV v u ∧ C.glob x = some d ∧ ∀ H, Rs X H v d
  call : ∀ f, c.fns.contains f = true → ∃ fa fd ps k c0, CallS X (C.call f) f fa fd ps k c0
theorem relS_lookup {sc : Scope} {x : Str} {k : NameKind} : ∀ {names : List (Str × NameKind)}, names.lookup x = some k →
    ∃ k', (names.map fun (n, k) => if (k == NameKind.free && sc.kind == .function && sc.names.lookup n == some .cell) then (n, NameKind.cell) else (n, k)).lookup x = some k' ∧ (k' = k ∨ (k = .free ∧ k' = .cell))
  | [], h => by simp at h
  | (n, k0) :: r, h => by
    have head : ((fun (p : Str × NameKind) => match p with | (n, k) => if (k == NameKind.free && sc.kind == .function && sc.names.lookup n == some .cell) = true then (n, NameKind.cell) else (n, k)) (n, k0)) = (n, if (k0 == NameKind.free && sc.kind == .function && sc.names.lookup n == some .cell) = true then NameKind.cell else k0) := by
      show (if (k0 == NameKind.free && sc.kind == .function && sc.names.lookup n == some .cell) = true then (n, NameKind.cell) else (n, k0)) = _
      split <;> rfl
    rw [List.map_cons]
    show ∃ k', List.lookup x ((if (k0 == NameKind.free && sc.kind == .function && sc.names.lookup n == some .cell) = true then (n, NameKind.cell) else (n, k0)) :: _) = some k' ∧ _
    cases hx : x == n with
    | true =>
      rw [List.lookup_cons, hx] at h
      cases h
      by_cases hc : (k == NameKind.free && sc.kind == .function && sc.names.lookup n == some .cell) = true
      · rw [if_pos hc, List.lookup_cons, hx]
        simp only [Bool.and_eq_true, beq_iff_eq] at hc
        exact ⟨.cell, rfl, .inr ⟨hc.1.1, rfl⟩⟩
      · rw [if_neg hc, List.lookup_cons, hx]
        exact ⟨k, rfl, .inl rfl⟩
    | false =>
      rw [List.lookup_cons, hx] at h
      obtain ⟨k', h1, h2⟩ := relS_lookup h
      refine ⟨k', ?_, h2⟩
      split
      · rw [List.lookup_cons, hx]; exact h1
      · rw [List.lookup_cons, hx]; exact h1
section
variable {X : Cx} {c : Cc} {C : Cfg}
theorem ixOf_get {N : List Str} {x : Str} {i : Nat} (h : ixOf N x = some i) : N[i]? = some x := by
  unfold ixOf at h
  rw [List.findIdx?_eq_some_iff_getElem] at h
  obtain ⟨hi, h1, _⟩ := h
  rw [List.getElem?_eq_getElem hi]
  simpa using h1
theorem slot_some {c : Cc} {x : Str} {i : Nat} (h : c.slot x = some i) : ixOf c.N x = some i ∧ Vis c.sc x := by
  unfold Cc.slot at h
  split at h
  · rename_i e; exact ⟨h, .inl e⟩
  · rename_i e; exact ⟨h, .inr (.inl e)⟩
  · rename_i e; exact ⟨h, .inr (.inr e)⟩
  · cases h
theorem loc_some {c : Cc} {x : Str} {i : Nat} (h : c.loc x = some i) : ixOf c.N x = some i ∧ Loc c.sc x := by
  unfold Cc.loc at h
  split at h
  · rename_i e; exact ⟨h, .inl e⟩
  · rename_i e; exact ⟨h, .inr e⟩
  · cases h
/-- within a comprehension -/
theorem CtxOk.into (h : CtxOk X c C) (sc : Scope) (s : Shared) (H : Hp) (A : Addr) (cl : List (Str × Addr)) (fp : List Addr) : CtxOk (X.blk s H sc (compEnvC sc cl A X.env) fp) (c.into sc) C := by
  have rel : ∀ {x : Str} {k : NameKind}, sc.names.lookup x = some k → ∃ k', (compEnvC sc cl A X.env).scope.names.lookup x = some k' ∧ (k' = k ∨ (k = .free ∧ k' = .cell)) := fun e => relS_lookup (sc := X.env.scope) e
  have keep : ∀ {x : Str} {k : NameKind}, k ≠ .free → sc.names.lookup x = some k → (compEnvC sc cl A X.env).scope.names.lookup x = some k := fun hk e => by
    obtain ⟨k', h1, h2⟩ := rel e
    rcases h2 with rfl | ⟨z, _⟩
    · exact h1
    · exact absurd z hk
  refine ⟨h.nd, h.nN, h.calm, h.room, fun x i hx => ?_, fun x i hx => ?_, fun x hx => ?_, fun sc2 own hb => ?_, h.free, h.glo, fun f hf => ?_⟩
  · obtain ⟨h1, h2⟩ := slot_some hx
    refine ⟨by show X.N[i]? = some x; rw [h.nN]; exact ixOf_get h1, ?_⟩
    rcases h2 with e | e | e
    · exact .inl (keep (by simp) e)
    · exact .inr (.inl (keep (by simp) e))
    · obtain ⟨k', e1, e2⟩ := rel e
      rcases e2 with rfl | ⟨_, rfl⟩
      · exact .inr (.inr e1)
      · exact .inr (.inl e1)
  · obtain ⟨h1, h2⟩ := loc_some hx
    refine ⟨by show X.N[i]? = some x; rw [h.nN]; exact ixOf_get h1, ?_, ?_⟩
    · rcases h2 with e | e
      · exact .inl (keep (by simp) e)
      · exact .inr (keep (by simp) e)
    · rcases h2 with e | e
      · exact .inr (keep (by simp) e)
      · refine .inl ?_
        show (sc.names.lookup x == some .cell) = true
        have e : sc.names.lookup x = some .cell := e
        rw [e]
        rfl
  · have e : sc.names.lookup x = some .globalImplicit := of_decide_eq_true hx
    exact keep (by simp) e
  · have b := blkOk_by hb
    refine ⟨b.kind, b.uniq, by rw [show (X.blk s H sc (compEnvC sc cl A X.env) fp).N = c.N from h.nN]; exact b.ix, fun y hy e => ?_, by rw [show (X.blk s H sc (compEnvC sc cl A X.env) fp).N = c.N from h.nN]; exact b.own⟩
    rcases b.free y hy e with e | e
    · exact .inl (keep (by simp) e)
    · obtain ⟨k', e1, e2⟩ := rel e
      rcases e2 with rfl | ⟨_, rfl⟩
      · exact .inr e1
      · exact .inl e1
  · obtain ⟨fa, fd, ps, k, c0, S⟩ := h.call f hf
    exact ⟨fa, fd, ps, k, c0, ⟨S.fmg, S.fkp, S.ffd, S.fnd, S.fok, S.frm, S.fpos, S.fkw⟩⟩
end
end EV

set_option Elab.async false
set_option linter.all false
set_option maxRecDepth 100000
set_option maxHeartbeats 1000000
/-! EV33: the compile is right: expressions (own work). -/
namespace EV
open PySem PySem.Spec PyProof.Rows L2
/-- a tuple's small form is one -/
def TupT (tg : Expr) (t : CT) : Prop := (∃ es k p, tg = .Tuple es k p) → ∃ ts, t = .tup ts
theorem TgS.tupT {X : Cx} {e : Expr} {t : CT} (h : TgS X e t) : TupT e t := by
  rintro ⟨es, k, p, rfl⟩
  cases h
  exact ⟨_, rfl⟩
structure IHn (n : Nat) : Prop where
  e : ∀ {X : Cx} {c : Cc} {C : Cfg} {kp : Bool} {e : Expr} {e' : CE}, CtxOk X c C → cE c kp n e = some e' → Snd X C e e' ∧ ∀ i, e' ≠ .lend i
  bo : ∀ {X : Cx} {c : Cc} {C : Cfg} {op : BoolOp} {es : List Expr} {p : Pos} {e' : CE}, CtxOk X c C → cBo c op n es p = some e' → PE X (.BoolOp op es p) (TEv X C e') ∧ PW X (.BoolOp op es p) (TTe X C e')
  l : ∀ {X : Cx} {c : Cc} {C : Cfg} {kp : Bool} {es : List Expr} {es' : CL}, CtxOk X c C → cL c kp n es = some es' → es.all notStar = true ∧ clLen es' = es.length ∧ PA X es (TLo X C es') ∧ PA X es (TLr X C es')
  g : ∀ {X : Cx} {c : Cc} {C : Cfg} {ld : Bool} {e : Expr} {e' : CE}, CtxOk X c C → cG c n ld e = some e' → (∃ i x p, e = .Name x p ∧ e' = .lend i ∧ X.N[i]? = some x ∧ Vis X.env.scope x ∧ x ≠ ("__debug__" : Str) ∧ x ≠ ("__classdict__" : Str)) ∨ (PE X e (TEv X C e') ∧ ∀ i, e' ≠ .lend i)
  a : ∀ {X : Cx} {c : Cc} {C : Cfg} {f : Str} {j : Nat} {es : List Expr} {es' : CL}, CtxOk X c C → cA c n f j es = some es' → es.all notStar = true ∧ (es = [] → es' = .nil) ∧ PA X es (TAg X C es')
  k : ∀ {X : Cx} {c : Cc} {C : Cfg} {kws : List Keyword} {q : List Str × CL}, CtxOk X c C → cK c n kws = some q → KwS X C kws q.1 q.2
  p : ∀ {X : Cx} {c : Cc} {C : Cfg} {ks : List (Option Expr)} {vs : List Expr} {ps : CP}, CtxOk X c C → cP c n ks vs = some ps → PrS X C ks vs ps
  o : ∀ {X : Cx} {c : Cc} {C : Cfg} {e : Option Expr} {o' : CO}, CtxOk X c C → cO c n e = some o' → PO X e (TOo X C o')
  r : ∀ {X : Cx} {c : Cc} {C : Cfg} {e : Expr} {q : Nat × CL}, CtxOk X c C → cR c n e = some q → baseOk e = true ∧ PE X e (TPl X C q.1 q.2)
  i : ∀ {X : Cx} {c : Cc} {C : Cfg} {tg it : Expr} {ci : CI}, CtxOk X c C → cI c n tg it = some ci → (∀ t, TupT tg t → PI X tg it (TIt t X C ci)) ∧ ∀ x, foldedSetIterable it X.env x = pure x
  f : ∀ {X : Cx} {c : Cc} {C : Cfg} {ifs : List Expr} {cond : CE}, CtxOk X c C → cF c n ifs = some cond → PTs X ifs (TTe X C cond)
section
variable {X : Cx} {c : Cc} {C : Cfg} {n : Nat}
theorem neb {x y : Str} (h : x ≠ y) : (x == y) = false := beq_eq_false_iff_ne.mpr h
mutual
theorem cT_ok (h : CtxOk X c C) : ∀ {n : Nat} {e : Expr} {t : CT}, cT c n e = some t → TgS X e t
  | 0, _, _, hh => by simp [cT] at hh
  | n + 1, e, t, hh => by
    cases e with
    | Name x p =>
      obtain ⟨i, h1, rfl⟩ := Option.map_eq_some_iff.mp (show (c.loc x).map .nm = some t from hh)
      obtain ⟨a, b, d⟩ := h.loc x i h1
      exact .nm a b d
    | Tuple es k p =>
      obtain ⟨ts, h1, rfl⟩ := Option.map_eq_some_iff.mp (show (cTs c n es).map .tup = some t from hh)
      exact .tup (cTs_ok h h1)
    | _ => cases hh
theorem cTs_ok (h : CtxOk X c C) : ∀ {n : Nat} {es : List Expr} {ts : CTs}, cTs c n es = some ts → TgsS X es ts
  | 0, _, _, hh => by simp [cTs] at hh
  | n + 1, [], ts, hh => by
    have hh : some CTs.nil = some ts := hh
    cases hh
    exact .nil
  | n + 1, e :: es, ts, hh => by
    obtain ⟨t, h1, hh⟩ := Option.bind_eq_some_iff.mp (show ((cT c n e).bind fun t => (cTs c n es).map fun ts => CTs.cons t ts) = some ts from hh)
    obtain ⟨us, h2, rfl⟩ := Option.map_eq_some_iff.mp hh
    have g := cT_ok h h1
    exact .cons (by cases g <;> rfl) g (cTs_ok h h2)
end
theorem ih0 : IHn 0 := by
  constructor <;> intros <;> rename_i h <;> first
    | (simp [cE] at h; done)
    | (simp [cBo] at h; done)
    | (simp [cL] at h; done)
    | (simp [cG] at h; done)
    | (simp [cA] at h; done)
    | (simp [cK] at h; done)
    | (simp [cP] at h; done)
    | (simp [cO] at h; done)
    | (simp [cR] at h; done)
    | (simp [cI] at h; done)
    | (simp [cF] at h; done)
theorem st_l (ih : IHn n) {kp : Bool} {es : List Expr} {es' : CL} (h : CtxOk X c C) (hh : cL c kp (n + 1) es = some es') : es.all notStar = true ∧ clLen es' = es.length ∧ PA X es (TLo X C es') ∧ PA X es (TLr X C es') := by
  cases es with
  | nil =>
    have hh : some CL.nil = some es' := hh
    cases hh
    exact ⟨rfl, rfl, lo_nil, lr_nil⟩
  | cons e es =>
    have hh : (if notStar e = true then (cE c kp n e).bind fun e' => (cL c kp n es).map fun es' => CL.cons e' es' else none) = some es' := hh
    split at hh
    · rename_i hs
      obtain ⟨e1, h1, hh⟩ := Option.bind_eq_some_iff.mp hh
      obtain ⟨es1, h2, rfl⟩ := Option.map_eq_some_iff.mp hh
      obtain ⟨s1, _⟩ := ih.e h h1
      obtain ⟨a1, a2, a3, a4⟩ := ih.l h h2
      exact ⟨by rw [List.all_cons, hs, a1]; rfl, by rw [List.length_cons, ← a2]; rfl, lo_cons hs s1.pe a3, lr_cons hs s1.pe a4⟩
    · cases hh
theorem st_bo (ih : IHn n) {op : BoolOp} {es : List Expr} {p : Pos} {e' : CE} (h : CtxOk X c C) (hh : cBo c op (n + 1) es p = some e') : PE X (.BoolOp op es p) (TEv X C e') ∧ PW X (.BoolOp op es p) (TTe X C e') := by
  match es, hh with
  | [], hh => cases hh
  | [a], hh =>
    obtain ⟨s1, _⟩ := ih.e h (show cE c false n a = some e' from hh)
    cases op
    · exact ⟨pe_one s1.pe, pw_and1 s1.pt⟩
    · exact ⟨pe_one s1.pe, pw_or1 s1.pt⟩
  | a :: b :: r, hh =>
    cases op with
    | And =>
      have hh : ((cE c false n a).bind fun a' => (cBo c .And n (b :: r) p).map fun b' => CE.and a' b') = some e' := hh
      obtain ⟨a1, h1, hh⟩ := Option.bind_eq_some_iff.mp hh
      obtain ⟨b1, h2, rfl⟩ := Option.map_eq_some_iff.mp hh
      obtain ⟨q1, q2⟩ := ih.bo h h2
      exact snd_and (ih.e h h1).1 q1 q2
    | Or =>
      have hh : ((cE c false n a).bind fun a' => (cBo c .Or n (b :: r) p).map fun b' => CE.or a' b') = some e' := hh
      obtain ⟨a1, h1, hh⟩ := Option.bind_eq_some_iff.mp hh
      obtain ⟨b1, h2, rfl⟩ := Option.map_eq_some_iff.mp hh
      obtain ⟨q1, q2⟩ := ih.bo h h2
      exact snd_or (ih.e h h1).1 q1 q2
theorem st_g (ih : IHn n) {ld : Bool} {e : Expr} {e' : CE} (h : CtxOk X c C) (hh : cG c (n + 1) ld e = some e') : (∃ i x p, e = .Name x p ∧ e' = .lend i ∧ X.N[i]? = some x ∧ Vis X.env.scope x ∧ x ≠ ("__debug__" : Str) ∧ x ≠ ("__classdict__" : Str)) ∨ (PE X e (TEv X C e') ∧ ∀ i, e' ≠ .lend i) := by
  have hh : (match lendOf c ld e with
    | some i => some (CE.lend i)
    | none => cE c true n e) = some e' := hh
  split at hh
  · rename_i i hl
    cases hh
    unfold lendOf at hl
    split at hl
    · rename_i x p
      split at hl
      · rename_i hc
        split at hl
        · rename_i j hs
          split at hl
          · cases hl
            obtain ⟨a, b⟩ := h.slot x i hs
            exact .inl ⟨i, x, p, rfl, rfl, a, b, hc.2.1, hc.2.2⟩
          · cases hl
        · cases hl
      · cases hl
    · cases hl
  · obtain ⟨s1, s2⟩ := ih.e h hh
    exact .inr ⟨s1.pe, s2⟩
theorem st_a (ih : IHn n) {f : Str} {j : Nat} {es : List Expr} {es' : CL} (h : CtxOk X c C) (hh : cA c (n + 1) f j es = some es') : es.all notStar = true ∧ (es = [] → es' = .nil) ∧ PA X es (TAg X C es') := by
  cases es with
  | nil =>
    have hh : some CL.nil = some es' := hh
    cases hh
    exact ⟨rfl, fun _ => rfl, ag_nil⟩
  | cons e es =>
    have hh : (if notStar e = true then (cG c n ((c.muts f).contains j) e).bind fun e' => (cA c n f (j + 1) es).map fun es' => CL.cons e' es' else none) = some es' := hh
    split at hh
    · rename_i hs
      obtain ⟨e1, h1, hh⟩ := Option.bind_eq_some_iff.mp hh
      obtain ⟨es1, h2, rfl⟩ := Option.map_eq_some_iff.mp hh
      obtain ⟨a1, _, a3⟩ := ih.a h h2
      refine ⟨by rw [List.all_cons, hs, a1]; rfl, (fun z => by cases z), ?_⟩
      rcases ih.g h h1 with ⟨i, x, p, rfl, rfl, g1, g2, g3, g4⟩ | ⟨g1, g2⟩
      · exact ag_lend g1 g2 (neb g3) (neb g4) a3
      · exact ag_val g2 hs g1 a3
    · cases hh
theorem st_k (ih : IHn n) {kws : List Keyword} {q : List Str × CL} (h : CtxOk X c C) (hh : cK c (n + 1) kws = some q) : KwS X C kws q.1 q.2 := by
  match kws, hh with
  | [], hh =>
    have hh : some (([] : List Str), CL.nil) = some q := hh
    cases hh
    exact .nil
  | ⟨some x, e, p⟩ :: r, hh =>
    have hh : (if notStar e = true then (cE c true n e).bind fun e' => (cK c n r).map fun q => (x :: q.1, CL.cons e' q.2) else none) = some q := hh
    split at hh
    · obtain ⟨e1, h1, hh⟩ := Option.bind_eq_some_iff.mp hh
      obtain ⟨q1, h2, rfl⟩ := Option.map_eq_some_iff.mp hh
      obtain ⟨s1, s2⟩ := ih.e h h1
      exact .cons s2 s1.pe (ih.k h h2)
    · cases hh
  | ⟨none, e, p⟩ :: r, hh => cases hh
theorem st_p (ih : IHn n) {ks : List (Option Expr)} {vs : List Expr} {ps : CP} (h : CtxOk X c C) (hh : cP c (n + 1) ks vs = some ps) : PrS X C ks vs ps := by
  match ks, vs, hh with
  | [], [], hh =>
    have hh : some CP.nil = some ps := hh
    cases hh
    exact .nil
  | some k :: ks, v :: vs, hh =>
    obtain ⟨k1, h1, hh⟩ := Option.bind_eq_some_iff.mp (show ((cE c true n k).bind fun k' => (cE c true n v).bind fun v' => (cP c n ks vs).map fun ps => CP.cons k' v' ps) = some ps from hh)
    obtain ⟨v1, h2, hh⟩ := Option.bind_eq_some_iff.mp hh
    obtain ⟨p1, h3, rfl⟩ := Option.map_eq_some_iff.mp hh
    exact .cons (ih.e h h1).1.pe (ih.e h h2).1.pe (ih.p h h3)
  | none :: _, _, hh => cases hh
  | [], _ :: _, hh => cases hh
  | some _ :: _, [], hh => cases hh
theorem st_o (ih : IHn n) {e : Option Expr} {o' : CO} (h : CtxOk X c C) (hh : cO c (n + 1) e = some o') : PO X e (TOo X C o') := by
  cases e with
  | none =>
    have hh : some CO.non = some o' := hh
    cases hh
    exact po_non
  | some e =>
    obtain ⟨e1, h1, rfl⟩ := Option.map_eq_some_iff.mp (show (cE c false n e).map .som = some o' from hh)
    exact po_som (ih.e h h1).1.pe
theorem st_f (ih : IHn n) {ifs : List Expr} {cond : CE} (h : CtxOk X c C) (hh : cF c (n + 1) ifs = some cond) : PTs X ifs (TTe X C cond) := by
  match ifs, hh with
  | [], hh =>
    have hh : some (CE.con (.bl true)) = some cond := hh
    cases hh
    refine ⟨fun pins s σ H Q I ⟨env, F, k, env', ho, he, q⟩ => pts_nil.run pins s σ H Q I ?_⟩
    have he : some (true, env) = some (k, env') := he
    cases he
    exact q true H F [] (Aft.refl ho) rfl Apart.nil
  | [i], hh => exact pts_one (ih.e h (show cE c false n i = some cond from hh)).1.pt
  | _ :: _ :: _, hh => cases hh
theorem st_r (ih : IHn n) {e : Expr} {q : Nat × CL} (h : CtxOk X c C) (hh : cR c (n + 1) e = some q) : baseOk e = true ∧ PE X e (TPl X C q.1 q.2) := by
  cases e with
  | Name x p =>
    have hh : (if x = ("__debug__" : Str) ∨ x = ("__classdict__" : Str) ∨ x = ("__name__" : Str) then none else (c.slot x).map fun i => (i, CL.nil)) = some q := hh
    split at hh
    · cases hh
    · rename_i hn
      obtain ⟨i, h1, rfl⟩ := Option.map_eq_some_iff.mp hh
      obtain ⟨a, b⟩ := h.slot x i h1
      exact ⟨rfl, pl_name a b (neb fun z => hn (.inl z)) (neb fun z => hn (.inr (.inl z)))⟩
  | Subscript o k p =>
    have go : (cR c n o).bind (fun p => (cE c false n k).map fun k' => (p.1, appL p.2 (.cons k' .nil))) = some q → notSlice k = true → baseOk (.Subscript o k p) = true ∧ PE X (.Subscript o k p) (TPl X C q.1 q.2) := fun hh hs => by
      obtain ⟨r1, h1, hh⟩ := Option.bind_eq_some_iff.mp hh
      obtain ⟨k1, h2, rfl⟩ := Option.map_eq_some_iff.mp hh
      exact ⟨rfl, pl_sub (plain_ix hs) (ih.r h h1).2 (ih.e h h2).1.pe⟩
    cases k with
    | Slice _ _ _ _ => cases hh
    | _ => exact go hh rfl
  | _ => cases hh
theorem isGl_of {f : Str} (hb : c.bltn f = true) : c.isGl f = true ∧ c.fns.contains f = false ∧ c.glb.contains f = false := by
  unfold Cc.bltn at hb
  rw [Bool.and_eq_true, Bool.and_eq_true, Bool.not_eq_true', Bool.not_eq_true'] at hb
  exact ⟨hb.1.1, hb.1.2, hb.2⟩
theorem CtxOk.bltn (h : CtxOk X c C) {f : Str} (hb : c.bltn f = true) (hm : f ∈ bltNames) : Gl X f ∧ X.mg f = none := by
  obtain ⟨h1, h2, h3⟩ := isGl_of hb
  exact ⟨h.gl f h1, h.free f hm h2 h3⟩
theorem set_no {e : Expr} {env : Env} (h : isSet e = false) : ∀ x, foldedSetIterable e env x = pure x := by
  intro x
  cases e <;> first
    | rfl
    | cases h
theorem cE_set {kp : Bool} {n : Nat} {e : Expr} {e' : CE} (h : cE c kp n e = some e') : isSet e = false := by
  cases e <;> first
    | rfl
    | (cases n <;> cases h)
theorem iter_name {f : Str} {b : Blt} (h : cIter f = some b) : (f = "range" ∧ b = .range) ∨ (f = "enumerate" ∧ b = .enumerate) ∨ (f = "zip" ∧ b = .zip) := by
  unfold cIter at h
  split at h
  · rename_i e; cases h; exact .inl ⟨e, rfl⟩
  split at h
  · rename_i e; cases h; exact .inr (.inl ⟨e, rfl⟩)
  split at h
  · rename_i e; cases h; exact .inr (.inr ⟨e, rfl⟩)
  · cases h
theorem iter_arg {f : Str} {tg : Expr} {args : List Expr} {b : Blt} (h : iterArg c f tg args = some b) : c.bltn f = true ∧
    ((f = "range" ∧ b = .range ∧ (args.length = 1 ∨ args.length = 2)) ∨ (f = "enumerate" ∧ b = .enumerate ∧ args.length = 1 ∧ ∃ es k p, tg = .Tuple es k p) ∨ (f = "zip" ∧ b = .zip ∧ args.length = 2 ∧ ∃ es k p, tg = .Tuple es k p)) := by
  unfold iterArg at h
  split at h
  · rename_i hb
    refine ⟨hb, ?_⟩
    cases e : cIter f with
    | none => rw [e] at h; cases h
    | some b0 =>
      rw [e] at h
      rcases iter_name e with ⟨rfl, rfl⟩ | ⟨rfl, rfl⟩ | ⟨rfl, rfl⟩
      · dsimp only at h
        split at h
        · rename_i hl; cases h; exact .inl ⟨rfl, rfl, hl⟩
        · cases h
      · dsimp only at h
        split at h
        · split at h
          · rename_i hl; cases h; exact .inr (.inl ⟨rfl, rfl, hl, _, _, _, rfl⟩)
          · cases h
        · cases h
      · dsimp only at h
        split at h
        · split at h
          · rename_i hl; cases h; exact .inr (.inr ⟨rfl, rfl, hl, _, _, _, rfl⟩)
          · cases h
        · cases h
  · cases h
theorem st_i (ih : IHn n) {tg it : Expr} {ci : CI} (h : CtxOk X c C) (hh : cI c (n + 1) tg it = some ci) : (∀ t, TupT tg t → PI X tg it (TIt t X C ci)) ∧ ∀ x, foldedSetIterable it X.env x = pure x := by
  have gen : (cE c true n it).map CI.of = some ci → (∀ t, TupT tg t → PI X tg it (TIt t X C ci)) ∧ ∀ x, foldedSetIterable it X.env x = pure x := fun hh => by
    obtain ⟨e1, h1, rfl⟩ := Option.map_eq_some_iff.mp hh
    exact ⟨fun t _ => piOf (ih.e h h1).1.pe, set_no (cE_set h1)⟩
  have call : ∀ {f : Str} {p : Pos} {args : List Expr} {q : Pos}, it = .Call (.Name f p) args [] q → (match iterArg c f tg args with
      | some b => (cL c true n args).map fun es => CI.blt b es
      | none => (cE c true n (.Call (.Name f p) args [] q)).map .of) = some ci → (∀ t, TupT tg t → PI X tg it (TIt t X C ci)) ∧ ∀ x, foldedSetIterable it X.env x = pure x := by
    rintro f p args q rfl hh
    split at hh
    · rename_i b hb
      obtain ⟨es, h1, rfl⟩ := Option.map_eq_some_iff.mp hh
      obtain ⟨hbl, hc⟩ := iter_arg hb
      obtain ⟨l1, l2, l3, _⟩ := ih.l h h1
      refine ⟨fun t ht => ?_, fun x => rfl⟩
      rcases hc with ⟨rfl, rfl, hl⟩ | ⟨rfl, rfl, hl, ts, k, pp, rfl⟩ | ⟨rfl, rfl, hl, ts, k, pp, rfl⟩
      · obtain ⟨g1, g2⟩ := h.bltn hbl (by simp [bltNames])
        match args, hl, l1, l2, l3 with
        | a :: args, hl, l1, l2, l3 => exact piRng g1 g2 l1 hl l2 l3
        | [], hl, _, _, _ => simp at hl
      · obtain ⟨g1, g2⟩ := h.bltn hbl (by simp [bltNames])
        match args, hl, l1, l3 with
        | [a], _, l1, l3 => exact piEnum g1 g2 (by simpa using l1) (ht ⟨_, _, _, rfl⟩) l3
      · obtain ⟨g1, g2⟩ := h.bltn hbl (by simp [bltNames])
        match args, hl, l1, l3 with
        | [a, b], _, l1, l3 => exact piZip g1 g2 l1 (ht ⟨_, _, _, rfl⟩) l3
    · exact gen hh
  cases it with
  | Call fe args kws q =>
    cases fe with
    | Name f p =>
      cases kws with
      | nil => exact call rfl hh
      | cons _ _ => exact gen hh
    | _ => exact gen hh
  | _ => exact gen hh
end
end EV

set_option Elab.async false
set_option linter.all false
set_option maxRecDepth 100000
set_option maxHeartbeats 2000000
/-! EV34: the compile is right: the expression's own step (own work). -/
namespace EV
open PySem PySem.Spec PyProof.Rows L2
section
variable {X : Cx} {c : Cc} {C : Cfg} {n : Nat}
theorem cTy_ok (h : CtxOk X c C) {e : Expr} {t : Ty} (hh : cTy c e = some t) : ∃ x q, e = .Name x q ∧ tyOf x = some t ∧ Gl X x ∧ X.mg x = none := by
  cases e with
  | Name x q =>
    have hh : (if c.isGl x && !c.fns.contains x && !c.glb.contains x then tyOf x else none) = some t := hh
    split at hh
    · rename_i hb
      have hm : x ∈ bltNames := by
        have := ty_name hh
        subst this
        cases t <;> simp [bltNames, tyS]
      obtain ⟨g1, g2⟩ := h.bltn hb hm
      exact ⟨x, q, rfl, hh, g1, g2⟩
    · cases hh
  | _ => cases hh
theorem cTys_ok (h : CtxOk X c C) {e : Expr} {ts : List Ty} (hh : cTys c e = some ts) (hl : ts.length ≤ sizeLine) : TysOk X e ts := by
  cases e with
  | Name x q =>
    obtain ⟨t, h1, rfl⟩ := Option.map_eq_some_iff.mp (show (cTy c (.Name x q)).map (fun t => [t]) = some ts from hh)
    obtain ⟨_, _, e, h2, h3, h4⟩ := cTy_ok h h1
    cases e
    exact .one h2 h3 h4
  | Tuple es k p =>
    refine .tup ?_ hl
    have go : ∀ (es : List Expr) (ts : List Ty), es.mapM (cTy c) = some ts → Paired (fun e t => ∃ x q, e = Expr.Name x q ∧ tyOf x = some t ∧ Gl X x ∧ X.mg x = none) es ts := by
      intro es
      induction es with
      | nil =>
        intro ts h
        have h : some [] = some ts := h
        cases h
        exact .nil
      | cons e es ih =>
        intro ts hm
        rw [List.mapM_cons] at hm
        cases e1 : cTy c e with
        | none => rw [e1] at hm; cases hm
        | some t =>
          rw [e1] at hm
          cases e2 : es.mapM (cTy c) with
          | none => rw [e2] at hm; cases hm
          | some us =>
            rw [e2] at hm
            have hm : some (t :: us) = some ts := hm
            cases hm
            exact .cons (cTy_ok h e1) (ih us e2)
    exact go es ts hh
  | _ => cases hh
theorem rng_arg {f : Str} {args as : List Expr} (h : rngArg c f args = some as) : ∃ p q, args = [.Call (.Name "range" p) as [] q] ∧ (f = "list" ∨ f = "tuple") ∧ c.bltn "range" = true ∧ (as.length = 1 ∨ as.length = 2) := by
  unfold rngArg at h
  split at h
  · split at h
    · rename_i hc
      cases h
      obtain ⟨h1, rfl, h3, h4⟩ := hc
      exact ⟨_, _, rfl, h1, h3, h4⟩
    · cases h
  · cases h
theorem blt_mem {f : Str} {b : Blt} (h : cBlt f = some b) : f ∈ bltNames := by
  unfold cBlt at h
  repeat (split at h; · (rename_i e; subst e; simp [bltNames]))
  cases h
def Good (X : Cx) (C : Cfg) (e : Expr) (e' : CE) : Prop := Snd X C e e' ∧ ∀ i, e' ≠ .lend i
theorem good {e : Expr} {e' : CE} (h : Snd X C e e') (hn : ∀ i, e' ≠ .lend i := by intro i; simp) : Good X C e e' := ⟨h, hn⟩
theorem goodP {e : Expr} {e' : CE} (h : PE X e (TEv X C e')) (hp : ∀ whole, isTrue e X.env whole = (do let v ← whole; standAt e.pos; holding [v] (truthy v)) := by intro _; rfl) (hn : ∀ i, e' ≠ .lend i := by intro i; simp) : Good X C e e' := ⟨snd_plain h hp, hn⟩
theorem st_name (h : CtxOk X c C) {kp : Bool} {x : Str} {p : Pos} {e' : CE} (hh : cE c kp (n + 1) (.Name x p) = some e') : Good X C (.Name x p) e' := by
  have hh : (if x = ("__debug__" : Str) ∨ x = ("__classdict__" : Str) ∨ x = ("__name__" : Str) then none else match c.slot x with
      | some i => some (if kp && c.own.contains i then CE.mv i else .var i)
      | none => if c.isGl x && c.glb.contains x then some (.glo x) else none) = some e' := hh
  split at hh
  · cases hh
  · rename_i hn
    have n1 := neb (x := x) fun z => hn (.inl z)
    have n2 := neb (x := x) fun z => hn (.inr (.inl z))
    split at hh
    · rename_i i hs
      obtain ⟨a, b⟩ := h.slot x i hs
      cases hh
      split
      · exact goodP (ev_mv a b n1 n2)
      · exact goodP (ev_var a b n1 n2)
    · split at hh
      · rename_i hg
        cases hh
        obtain ⟨g1, g2⟩ := and2 hg
        obtain ⟨u, v, d, m, r, q, rl⟩ := h.glo x g2
        exact goodP (ev_glo (h.gl x g1) m r n1 q rl)
      · cases hh
theorem st_sub (ih : IHn n) (h : CtxOk X c C) {kp : Bool} {a k : Expr} {p : Pos} {e' : CE} (hh : cE c kp (n + 1) (.Subscript a k p) = some e') : Good X C (.Subscript a k p) e' := by
  have idx : (cE c false n a).bind (fun a' => (cE c false n k).map fun k' => CE.idx a' k') = some e' → notSlice k = true → Good X C (.Subscript a k p) e' := fun hh hs => by
    obtain ⟨a1, h1, hh⟩ := Option.bind_eq_some_iff.mp hh
    obtain ⟨k1, h2, rfl⟩ := Option.map_eq_some_iff.mp hh
    exact goodP (evIdx (plain_ix hs) (ih.e h h1).1.pe (ih.e h h2).1.pe)
  cases k with
  | Slice lo hi st q =>
    cases st with
    | none =>
      obtain ⟨a1, h1, hh⟩ := Option.bind_eq_some_iff.mp (show ((cE c false n a).bind fun a' => (cO c n lo).bind fun l => (cO c n hi).map fun h => CE.slc a' l h) = some e' from hh)
      obtain ⟨l1, h2, hh⟩ := Option.bind_eq_some_iff.mp hh
      obtain ⟨l2, h3, rfl⟩ := Option.map_eq_some_iff.mp hh
      exact goodP (evSlc (ih.e h h1).1.pe (ih.o h h2) (ih.o h h3))
    | some st =>
      cases lo with
      | some lo => cases hh
      | none =>
        cases hi with
        | some hi => cases hh
        | none =>
          have hh : (if isMinusOne st then (cE c false n a).map CE.rev else none) = some e' := hh
          split at hh
          · rename_i hm
            obtain ⟨a1, h1, rfl⟩ := Option.map_eq_some_iff.mp hh
            exact goodP (evRev hm (ih.e h h1).1.pe)
          · cases hh
  | _ => exact idx hh rfl
end
end EV

set_option Elab.async false
set_option linter.all false
set_option maxRecDepth 100000
set_option maxHeartbeats 2000000
/-! EV35: the compile is right: calls, comprehensions, the whole (own work). -/
namespace EV
open PySem PySem.Spec PyProof.Rows L2
section
variable {X : Cx} {c : Cc} {C : Cfg} {n : Nat}
section
variable {s : Shared} {H0 : Hp} {sc : Scope} {ce : Env} {fp : List Addr}
theorem blk_aft {σ : L2.St} {p : Bool} {H H' : Hp} {env env' : Ev} {F F' : List Addr} (a : Aft (X.blk s H0 sc ce fp) σ p H env F H' env' F') : Aft X σ p H env F H' env' F' := ⟨a.ok, a.sub, a.but, a.nn, a.stb, a.pur⟩
theorem blk_op {e : Expr} {e' : CE} (h : PE (X.blk s H0 sc ce fp) e (TOp (X.blk s H0 sc ce fp) C e')) : PE (X.blk s H0 sc ce fp) e (TOp X C e') := h.of fun σ H Q ⟨env, F, r, env', ho, he, q⟩ => ⟨env, F, r, env', ho, he, fun b H' F' G a o p => q b H' F' G (blk_aft a) o p⟩
theorem blk_t {e : List Expr} {e' : CE} (h : PTs (X.blk s H0 sc ce fp) e (TTe (X.blk s H0 sc ce fp) C e')) : PTs (X.blk s H0 sc ce fp) e (TTe X C e') := ⟨fun pins s' σ H Q I ⟨env, F, r, env', ho, he, q⟩ => h.run pins s' σ H Q I ⟨env, F, r, env', ho, he, fun b H' F' G a o p => q b H' F' G (blk_aft a) o p⟩⟩
theorem blk_g {tg : Expr} {t : CT} (h : PG (X.blk s H0 sc ce fp) tg (gT (X.blk s H0 sc ce fp) t)) : PG (X.blk s H0 sc ce fp) tg (gT X t) := PG.of h fun v σ H Q ⟨env, F, d, env', ho, hr, he, q⟩ => ⟨env, F, d, env', ho, hr, he, fun σ' F' st => q σ' F' ⟨st.ok, st.sub, st.out⟩⟩
end
theorem st_call (ih : IHn n) (h : CtxOk X c C) {kp : Bool} {f : Str} {p q : Pos} {args : List Expr} {kws : List Keyword} {e' : CE} (hk : cE c kp (n + 1) (.Call (.Name f p) args kws q) = some e') : Good X C (.Call (.Name f p) args kws q) e' := by
  have hh : (if (!c.isGl f || decide (f = ("__debug__" : Str))) = true then none else
      if c.fns.contains f = true then
        (cA c n f 0 args).bind fun es => (cK c n kws).bind fun ks => some (CE.call f (appL es ks.2) ks.1)
      else if (!kws.isEmpty || c.glb.contains f) = true then none else
      if f = ("isinstance" : Str) then (match (generalizing := false) args with
        | [a, t] => if notStar a = true then (cTys c t).bind fun ts => if ts.length ≤ 100 then (cE c false n a).map fun a' => .isi a' ts else none else none
        | _ => none)
      else (cBlt f).bind fun b => match (generalizing := false) rngArg c f args with
        | some as => (cL c true n as).map fun es => .rng (decide (f = ("tuple" : Str))) es
        | none => if args.isEmpty = true then none else (cL c false n args).map fun es => .blt b es) = some e' := hk
  clear hk
  split at hh
  · cases hh
  · rename_i h0
    have g0 : c.isGl f = true ∧ f ≠ ("__debug__" : Str) := by
      rw [Bool.or_eq_true, not_or] at h0
      exact ⟨by simpa using h0.1, by simpa using h0.2⟩
    split at hh
    · rename_i hf
      obtain ⟨es, h1, hh⟩ := Option.bind_eq_some_iff.mp hh
      obtain ⟨ks, h2, hh⟩ := Option.bind_eq_some_iff.mp hh
      cases hh
      obtain ⟨fa, fd, ps, k, c0, S⟩ := h.call f hf
      obtain ⟨a1, a2, a3⟩ := ih.a h h1
      exact goodP (evCall S h.room.2.2 (h.gl f g0.1) (neb g0.2) a2 a1 a3 (ih.k h h2))
    · rename_i hf
      split at hh
      · cases hh
      · rename_i h3
        rw [Bool.or_eq_true, not_or] at h3
        have kn : kws = [] := by
          cases kws with
          | nil => rfl
          | cons _ _ => exact absurd rfl h3.1
        subst kn
        have bl : c.bltn f = true := by
          unfold Cc.bltn
          rw [g0.1]
          have e1 : c.fns.contains f = false := by simpa using hf
          have e2 : c.glb.contains f = false := by simpa using h3.2
          rw [e1, e2]
          rfl
        split at hh
        · rename_i hi
          subst hi
          obtain ⟨g1, g2⟩ := h.bltn bl (by simp [bltNames])
          split at hh
          · rename_i a t
            split at hh
            · rename_i hs
              obtain ⟨ts, h4, hh⟩ := Option.bind_eq_some_iff.mp hh
              split at hh
              · rename_i hl
                obtain ⟨a1, h5, rfl⟩ := Option.map_eq_some_iff.mp hh
                exact goodP (peIsi g1 g2 hs (ih.e h h5).1.pe (cTys_ok h h4 (by rw [sizeLine_eq]; omega)))
              · cases hh
            · cases hh
          · cases hh
        · obtain ⟨b, hb, hh⟩ := Option.bind_eq_some_iff.mp hh
          obtain ⟨g1, g2⟩ := h.bltn bl (blt_mem hb)
          split at hh
          · rename_i as hr
            obtain ⟨es, h4, rfl⟩ := Option.map_eq_some_iff.mp hh
            obtain ⟨p1, q1, rfl, hn, hb2, hl⟩ := rng_arg hr
            obtain ⟨r1, r2⟩ := h.bltn hb2 (by simp [bltNames])
            obtain ⟨l1, _, l3, _⟩ := ih.l h h4
            match as, hl, l1, l3 with
            | a :: as, hl, l1, l3 =>
              refine goodP (peRng ?_ h.calm r1 r2 g1 g2 l1 l3 hl)
              rcases hn with rfl | rfl
              · rw [decide_eq_false (by decide)]; rfl
              · rw [decide_eq_true rfl]; rfl
            | [], hl, _, _ => simp at hl
          · split at hh
            · cases hh
            · rename_i he
              obtain ⟨es, h4, rfl⟩ := Option.map_eq_some_iff.mp hh
              obtain ⟨l1, _, l3, _⟩ := ih.l h h4
              match args, he, l1, l3 with
              | a :: args, he, l1, l3 => exact goodP (peBlt h.room h.calm g1 g2 hb l1 l3)
              | [], he, _, _ => exact absurd rfl he
theorem st_mth (ih : IHn n) (h : CtxOk X c C) {kp : Bool} {o : Expr} {m : Str} {ap q : Pos} {args : List Expr} {e' : CE} (hh : cE c kp (n + 1) (.Call (.Attribute o m ap) args [] q) = some e') : Good X C (.Call (.Attribute o m ap) args [] q) e' := by
  have hh : (if (!baseOk o || !(ap.endLine == q.line) || !decide (args.length < 29)) = true then none else match cMut m with
      | some mm => (cR c n o).bind fun q => (cL c true n args).map fun es => CE.mut mm q.1 q.2 es
      | none => if args.isEmpty = true then none else (cMth m).bind fun mm => (cE c false n o).bind fun o' => (cL c false n args).map fun es => .mth mm o' es) = some e' := hh
  split at hh
  · cases hh
  · rename_i h0
    rw [Bool.or_eq_true, Bool.or_eq_true, not_or, not_or] at h0
    have b1 : baseOk o = true := by simpa using h0.1.1
    have b2 : (ap.endLine == q.line) = true := by simpa using h0.1.2
    have b3 : args.length < 29 := by simpa using h0.2
    split at hh
    · rename_i mm hm
      obtain ⟨r, h1, hh⟩ := Option.bind_eq_some_iff.mp hh
      obtain ⟨es, h2, rfl⟩ := Option.map_eq_some_iff.mp hh
      obtain ⟨_, r2⟩ := ih.r h h1
      obtain ⟨l1, l2, _, l4⟩ := ih.l h h2
      match args, b3, l1, l2, l4 with
      | [], _, _, l2, _ =>
        have : es = .nil := by
          cases es with
          | nil => rfl
          | cons _ _ => cases l2
        subst this
        exact goodP (evMut0 hm b1 b2 r2)
      | a :: args, b3, l1, _, l4 => exact goodP (evMut hm b1 b2 l1 b3 r2 l4)
    · split at hh
      · cases hh
      · rename_i hne
        obtain ⟨mm, h1, hh⟩ := Option.bind_eq_some_iff.mp hh
        obtain ⟨o1, h2, hh⟩ := Option.bind_eq_some_iff.mp hh
        obtain ⟨es, h3, rfl⟩ := Option.map_eq_some_iff.mp hh
        obtain ⟨l1, _, l3, _⟩ := ih.l h h3
        match args, hne, b3, l1, l3 with
        | [], hne, _, _, _ => exact absurd rfl hne
        | a :: args, _, b3, l1, l3 => exact goodP (evMth h.room h1 b1 b2 l1 b3 (ih.e h h2).1.pe l3)
/-- a comprehension's parts -/
theorem st_lcP (ih : IHn n) (h : CtxOk X c C) {kp : Bool} {elt : Expr} {gens : List Comprehension} {sc : Scope} {p : Pos} {e' : CE} (hh : cE c kp (n + 1) (.ListComp elt gens sc p) = some e') : ∃ tg it ifs t ci cond el, gens = [⟨tg, it, ifs, 0⟩] ∧ e' = .lc t ci cond el ((ownOf c.N sc).map (·.2)) ∧
    BlkOk X.N X.env.scope sc (ownOf c.N sc) ∧ PI X tg it (TIt t X C ci) ∧ (∀ x, foldedSetIterable it X.env x = pure x) ∧
    (∀ (s : Shared) (H : Hp) (A : Addr) (cl : List (Str × Addr)) (fp : List Addr), PG (X.blk s H sc (compEnvC sc cl A X.env) fp) tg (gT X t)) ∧ (∀ (s : Shared) (H : Hp) (A : Addr) (cl : List (Str × Addr)) (fp : List Addr), PTs (X.blk s H sc (compEnvC sc cl A X.env) fp) ifs (TTe X C cond)) ∧
    (∀ (s : Shared) (H : Hp) (A : Addr) (cl : List (Str × Addr)) (fp : List Addr), PE (X.blk s H sc (compEnvC sc cl A X.env) fp) elt (TOp X C el)) ∧
    ∀ {σ : L2.St} {H : Hp} {Q : VK}, TEv X C e' σ H Q → tLc (TIt t X C ci) (gT X t) (TTe X C cond) (TOp X C el) ((ownOf c.N sc).map (·.2)) σ H Q := by
  match gens, hh with
  | [⟨tg, it, ifs, 0⟩], hh =>
    have hh : (if (!blkC c.N c.sc sc (ownOf c.N sc)) = true then none else
        (cI c n tg it).bind fun it' => (cT (c.into sc) n tg).bind fun t => (cF (c.into sc) n ifs).bind fun cond => (cE (c.into sc) true n elt).bind fun e' => if (tgtIx t).all ((ownOf c.N sc).map fun p => p.2).contains = true then some (CE.lc t it' cond e' ((ownOf c.N sc).map fun p => p.2)) else none) = some e' := hh
    split at hh
    · cases hh
    · rename_i hb
      have hb : blkC c.N c.sc sc (ownOf c.N sc) = true := by simpa using hb
      obtain ⟨ci, h1, hh⟩ := Option.bind_eq_some_iff.mp hh
      obtain ⟨t, h2, hh⟩ := Option.bind_eq_some_iff.mp hh
      obtain ⟨cond, h3, hh⟩ := Option.bind_eq_some_iff.mp hh
      obtain ⟨el, h4, hh⟩ := Option.bind_eq_some_iff.mp hh
      split at hh
      · rename_i ht
        cases hh
        obtain ⟨i1, i2⟩ := ih.i h h1
        have ctx := fun (s : Shared) (H : Hp) (A : Addr) (cl : List (Str × Addr)) (fp : List Addr) => h.into (X := X) sc s H A cl fp
        have tv : ∀ v ∈ tgtIx t, v ∈ (ownOf c.N sc).map (·.2) := fun v hv => by
          have := List.all_eq_true.mp ht v hv
          simpa using this
        have G : ∀ (s : Shared) (H : Hp) (A : Addr) (cl : List (Str × Addr)) (fp : List Addr), PG (X.blk s H sc (compEnvC sc cl A X.env) fp) tg (gT X t) := fun s H A cl fp => blk_g ((cT_ok (ctx s H A cl fp) h2).pg (ctx s H A cl fp).nd (ctx s H A cl fp).calm)
        have F : ∀ (s : Shared) (H : Hp) (A : Addr) (cl : List (Str × Addr)) (fp : List Addr), PTs (X.blk s H sc (compEnvC sc cl A X.env) fp) ifs (TTe X C cond) := fun s H A cl fp => blk_t (ih.f (ctx s H A cl fp) h3)
        have E : ∀ (s : Shared) (H : Hp) (A : Addr) (cl : List (Str × Addr)) (fp : List Addr), PE (X.blk s H sc (compEnvC sc cl A X.env) fp) elt (TOp X C el) := fun s H A cl fp => blk_op ((ih.e (ctx s H A cl fp) h4).1.pe).op
        -- the target is the same in every block
        have pi : PI X tg it (TIt t X C ci) := i1 t fun htp => by
          obtain ⟨es, k, p, rfl⟩ := htp
          match n, h2 with
          | 0, h2 => simp [cT] at h2
          | n + 1, h2 =>
            obtain ⟨ts, _, rfl⟩ := Option.map_eq_some_iff.mp (show (cTs (c.into sc) n es).map CT.tup = some t from h2)
            exact ⟨ts, rfl⟩
        exact ⟨tg, it, ifs, t, ci, cond, el, rfl, rfl, h.blk sc _ hb, pi, i2, G, F, E, fun hq => evLc h.calm h.nd (h.blk sc _ hb) pi tv G F E hq⟩
      · cases hh
theorem st_e (ih : IHn n) (h : CtxOk X c C) {kp : Bool} {e : Expr} {e' : CE} (hh : cE c kp (n + 1) e = some e') : Good X C e e' := by
  cases e with
  | Name x p => exact st_name h hh
  | Constant k u p =>
    cases k with
    | none => cases hh; exact goodP (ev_con rfl)
    | bool b => cases hh; exact goodP (ev_con rfl)
    | int i => cases hh; exact goodP (ev_con rfl)
    | str x => cases hh; exact goodP (ev_con rfl)
    | _ => cases hh
  | BinOp a op b p =>
    obtain ⟨o, h1, hh⟩ := Option.bind_eq_some_iff.mp (show ((cOp op).bind fun o => (cE c false n a).bind fun a' => (cE c false n b).map fun b' => CE.bin o a' b') = some e' from hh)
    obtain ⟨a1, h2, hh⟩ := Option.bind_eq_some_iff.mp hh
    obtain ⟨b1, h3, rfl⟩ := Option.map_eq_some_iff.mp hh
    exact goodP (ev_bin h1 (ih.e h h2).1.pe (ih.e h h3).1.pe)
  | UnaryOp op a p =>
    cases op with
    | USub =>
      obtain ⟨a1, h1, rfl⟩ := Option.map_eq_some_iff.mp (show (cE c false n a).map CE.neg = some e' from hh)
      exact good (snd_neg (ih.e h h1).1.pe)
    | Not =>
      obtain ⟨a1, h1, rfl⟩ := Option.map_eq_some_iff.mp (show (cE c false n a).map CE.not = some e' from hh)
      exact good (snd_not (ih.e h h1).1)
    | _ => cases hh
  | BoolOp op es p =>
    match es, hh with
    | a :: b :: r, hh =>
      cases op with
      | And =>
        obtain ⟨a1, h1, hh⟩ := Option.bind_eq_some_iff.mp (show ((cE c false n a).bind fun a' => (cBo c .And n (b :: r) p).map fun b' => CE.and a' b') = some e' from hh)
        obtain ⟨b1, h2, rfl⟩ := Option.map_eq_some_iff.mp hh
        obtain ⟨q1, q2⟩ := ih.bo h h2
        obtain ⟨r1, r2⟩ := snd_and (ih.e h h1).1 q1 q2
        exact good ⟨r1, r2.pt⟩
      | Or =>
        obtain ⟨a1, h1, hh⟩ := Option.bind_eq_some_iff.mp (show ((cE c false n a).bind fun a' => (cBo c .Or n (b :: r) p).map fun b' => CE.or a' b') = some e' from hh)
        obtain ⟨b1, h2, rfl⟩ := Option.map_eq_some_iff.mp hh
        obtain ⟨q1, q2⟩ := ih.bo h h2
        obtain ⟨r1, r2⟩ := snd_or (ih.e h h1).1 q1 q2
        exact good ⟨r1, r2.pt⟩
    | [], hh => cases hh
    | [_], hh => cases hh
  | Compare a ops cs p =>
    match ops, cs, hh with
    | [op], [b], hh =>
      have hh : (if behindInMarks op b = true then none else (cCmp op).bind fun o => (cE c false n a).bind fun a' => (cE c false n b).map fun b' => CE.cmp o a' b') = some e' := hh
      split at hh
      · cases hh
      · rename_i hm
        obtain ⟨o, h1, hh⟩ := Option.bind_eq_some_iff.mp hh
        obtain ⟨a1, h2, hh⟩ := Option.bind_eq_some_iff.mp hh
        obtain ⟨b1, h3, rfl⟩ := Option.map_eq_some_iff.mp hh
        exact good (snd_cmp h.room h1 (Bool.eq_false_iff.mpr hm) (ih.e h h2).1.pe (ih.e h h3).1.pe)
    | [op, op'], [b, d], hh =>
      have hh : (if (behindInMarks op b || behindInMarks op' d) = true then none else
        (cCmp op).bind fun o => (cCmp op').bind fun o' => (cE c false n a).bind fun a' => (cE c false n b).bind fun b' => (cE c false n d).map fun d' => CE.chn o o' a' b' d') = some e' := hh
      split at hh
      · cases hh
      · rename_i hm
        rw [Bool.or_eq_true, not_or] at hm
        obtain ⟨o, h1, hh⟩ := Option.bind_eq_some_iff.mp hh
        obtain ⟨o', h2, hh⟩ := Option.bind_eq_some_iff.mp hh
        obtain ⟨a1, h3, hh⟩ := Option.bind_eq_some_iff.mp hh
        obtain ⟨b1, h4, hh⟩ := Option.bind_eq_some_iff.mp hh
        obtain ⟨d1, h5, rfl⟩ := Option.map_eq_some_iff.mp hh
        exact good (snd_chn h.room h1 h2 (Bool.eq_false_iff.mpr hm.2) (ih.e h h3).1.pe (ih.e h h4).1.pe (ih.e h h5).1.pe)
    | [], _, hh => cases hh
    | [_], [], hh => cases hh
    | [_], _ :: _ :: _, hh => cases hh
    | [_, _], [], hh => cases hh
    | [_, _], [_], hh => cases hh
    | [_, _], _ :: _ :: _ :: _, hh => cases hh
    | _ :: _ :: _ :: _, _, hh => cases hh
  | IfExp t a b p =>
    obtain ⟨t1, h1, hh⟩ := Option.bind_eq_some_iff.mp (show ((cE c false n t).bind fun t' => (cE c kp n a).bind fun a' => (cE c kp n b).map fun b' => CE.ite t' a' b') = some e' from hh)
    obtain ⟨a1, h2, hh⟩ := Option.bind_eq_some_iff.mp hh
    obtain ⟨b1, h3, rfl⟩ := Option.map_eq_some_iff.mp hh
    exact good (snd_ite (ih.e h h1).1 (ih.e h h2).1 (ih.e h h3).1)
  | Tuple es k p =>
    obtain ⟨es1, h1, rfl⟩ := Option.map_eq_some_iff.mp (show (cL c true n es).map CE.tup = some e' from hh)
    exact goodP (evTup (ih.l h h1).2.2.1)
  | List es p =>
    obtain ⟨es1, h1, rfl⟩ := Option.map_eq_some_iff.mp (show (cL c true n es).map CE.lst = some e' from hh)
    exact goodP (evLst (ih.l h h1).2.2.1)
  | Dict ks vs p =>
    have hh : (if (ks.isEmpty || !decide (ks.length ≤ 15)) = true then none else (cP c n ks vs).map CE.dct) = some e' := hh
    split at hh
    · cases hh
    · rename_i hc
      rw [Bool.or_eq_true, not_or] at hc
      obtain ⟨ps, h1, rfl⟩ := Option.map_eq_some_iff.mp hh
      exact goodP (evDct (ih.p h h1) (fun z => by subst z; exact hc.1 rfl) (by simpa using hc.2))
  | Subscript a k p => exact st_sub ih h hh
  | Call fe args kws p =>
    cases fe with
    | Name f q => exact st_call ih h hh
    | Attribute o m ap =>
      cases kws with
      | nil => exact st_mth ih h hh
      | cons _ _ => cases hh
    | _ => cases hh
  | ListComp elt gens sc p =>
    obtain ⟨tg, it, ifs, t, ci, cond, el, rfl, rfl, ok, pi, hs, G, F, E, rd⟩ := st_lcP ih h hh
    exact goodP ((pe_lc h.calm h.nd pi ok G F E hs).of fun σ H Q hq => rd hq)
  | _ => cases hh
theorem ih_all : ∀ n, IHn n
  | 0 => ih0
  | n + 1 =>
    have ih := ih_all n
    ⟨fun h hh => st_e ih h hh, fun h hh => st_bo ih h hh, fun h hh => st_l ih h hh, fun h hh => st_g ih h hh, fun h hh => st_a ih h hh, fun h hh => st_k ih h hh, fun h hh => st_p ih h hh, fun h hh => st_o ih h hh, fun h hh => st_r ih h hh, fun h hh => st_i ih h hh, fun h hh => st_f ih h hh⟩
end
end EV

set_option Elab.async false
set_option linter.all false
set_option maxRecDepth 100000
set_option maxHeartbeats 2000000
/-! EV36: the compile is right: statements (own work). -/
namespace EV
open PySem PySem.Spec PyProof.Rows L2
section
variable {X : Cx} {c : Cc} {C : Cfg} {n : Nat}
/-- the object goes over for good once it is stored -/
theorem frzNm {st : Stmt} {i : Nat} {e' : CE} (hi : i < X.N.length) (h : PS X st (TSt X (evS C (.asgO i e')) [i])) : PS X st (TSt X (evS C (.asg (.nm i) e')) [i]) := by
  refine ⟨fun pins s σ H D I ⟨env, F, fl, env', ho, hh, g⟩ => ?_⟩
  simp only [evS] at hh
  split at hh
  · cases hh
  · rename_i r e1 hr
    obtain ⟨d, hk, hs⟩ := Option.bind_eq_some_iff.mp hh
    obtain ⟨e2, hs, ee⟩ := Option.map_eq_some_iff.mp hs
    cases ee
    have hs : some (e1.set i (some (.val d))) = some env' := hs
    cases hs
    match r, hk, hr with
    | .val d', hk, hr =>
      cases hk
      exact h.run pins s σ H D I ⟨env, F, .next, _, ho, by simp [evS, hr], g⟩
    | .own o, hk, hr =>
      cases hk
      refine thn (h.run pins s σ H { nx := fun σ' H' => ∃ F', Bst X σ H F [i] σ' H' (e1.set i (some (.own o))) F', rt := D.rt } I ⟨env, F, .next, e1.set i (some (.own o)), ho, by simp [evS, hr], fun σ' H' F' b => ⟨F', b⟩⟩) fun f s' hf => ?_
      match f, hf with
      | .brk, ⟨_, _, _, z⟩ => exact z.elim
      | .cont, ⟨_, _, _, z⟩ => exact z.elim
      | .ret u, ⟨v, σ', H', I', rv, q⟩ => exact ⟨v, σ', H', I', rv, q⟩
      | .next, ⟨σ', H', I', F', b⟩ =>
        have hlen : i < e1.length := by
          have l1 := b.ok.length
          rw [List.length_set] at l1
          rw [← l1, I'.len]
          exact hi
        have hat : (e1.set i (some (.own o)))[i]? = some (some (.own o)) := List.getElem?_set_self hlen
        obtain ⟨x, G, ex, s1, sub, rp⟩ := b.ok.at hat
        obtain ⟨v, rfl, ow⟩ := s1
        obtain ⟨H2, I2, rl, bt, st, nn, _⟩ := Ow.freeze o I' ow
        obtain ⟨F2, ok2, sF⟩ := rp H2 (some v) (some (.val (fz o))) [] st (fun y hy hn => bt y hn (b.ok.foot y hy).ne) ⟨rfl, v, rfl, rl⟩ (fun y hy => by simp at hy)
        rw [set_same ex, List.set_set] at ok2
        refine ⟨σ', H2, I2, g σ' H2 F2 ⟨ok2, fun y hy => ?_, fun y hy hn => ?_, fun y hn => ?_, b.stb.trans st, b.out, b.len⟩⟩
        · rcases sF y hy with z | z
          · simp at z
          · exact b.sub y z.1
        · have e0 := b.but y hy hn
          rw [bt y (fun z => ?_) (b.nn y hn), e0]
          rcases b.sub y (sub y z) with q | q
          · exact hy q
          · exact hn q
        · by_cases z : y ∈ G
          · exact nn y z
          · rw [bt y z (b.nn y hn)]
            exact b.nn y hn
theorem swap_lc {elt : Expr} {gens : List Comprehension} {sc : Scope} {p q : Pos} {x : Str} {m : Nat} {env : Env} : ∃ b : Bool, swapsWith (.ListComp elt gens sc p) (some (.Name x q)) m env = pure b ∧ (b = true → env.kindOf x = some .local) := by
  refine ⟨_, rfl, fun h => ?_⟩
  simp only [Bool.and_eq_true, beq_iff_eq] at h
  exact h.1.1.2
theorem sLcO (h : CtxOk X c C) {x : Str} {p q pos : Pos} {i : Nat} {elt : Expr} {gens : List Comprehension} {sc : Scope} {e' : CE} (hi : X.N[i]? = some x) (hx : Loc X.env.scope x) (hf : X.fn x = true ∨ X.env.scope.names.lookup x = some .local)
    (hh : cE c true 60 (.ListComp elt gens sc p) = some e') : PS X (.Assign [.Name x q] (.ListComp elt gens sc p) pos) (TSt X (evS C (.asgO i e')) [i]) := by
  obtain ⟨tg, it, ifs, t, ci, cond, el, rfl, rfl, ok, pi, hs, G, F, E, rd⟩ := st_lcP (ih_all 59) h hh
  have pe := (pe_lc (pos := p) h.calm h.nd pi ok G F E hs).of fun σ H Q hq => rd hq
  obtain ⟨b, hb, hl⟩ := swap_lc (elt := elt) (gens := [⟨tg, it, ifs, 0⟩]) (sc := sc) (p := p) (q := q) (x := x) (m := pos.line) (env := X.env)
  cases b with
  | false => exact (ps_set h.nd hi hx pe hb hf).of fun D σ H hd => asgO_rd hd
  | true => exact (ps_setLc h.calm h.nd hi (hl rfl) hb pi ok G F E hs).of fun D σ H hd => rd (asgO_rd hd)
/-- a def's body -/
structure BodyOk (X : Cx) (c : Cc) (C : Cfg) : Prop where
  ctx : CtxOk X c C
  own : PassesOwn (model X.prog X.w) X.A X.env X.xe
  bk : X.env.blockKind = .function
  sc : X.env.scope = c.sc
theorem cE_ok (h : CtxOk X c C) {kp : Bool} {e : Expr} {e' : CE} (hh : cE c kp 60 e = some e') : Snd X C e e' := ((ih_all 60).e h hh).1
theorem TSt.mono {f : Ev → Option (Fl × Ev)} {ix jx : List Nat} (h : ∀ i ∈ ix, i ∈ jx) {D : Ends} {σ : L2.St} {H : Hp} (t : TSt X f jx D σ H) : TSt X f ix D σ H := by
  obtain ⟨env, F, fl, env', ho, he, g⟩ := t
  refine ⟨env, F, fl, env', ho, he, ?_⟩
  exact Goal.imp (Bst.refl (ix := []) ho) (fun i h => by simp at h) h g (fun _ => rfl) rfl rfl rfl
theorem par_ok (h : CtxOk X c C) : ∀ {ts : List Expr} {own : List (Nat × Bool)}, parOf c ts = some own → ParS X ts own
  | [], own, hh => by
    have hh : some [] = some own := hh
    cases hh
    exact .nil
  | t :: ts, own, hh => by
    unfold parOf at hh
    rw [List.mapM_cons] at hh
    cases e1 : (isName t).bind (fun x => (c.loc x).map fun i => (i, c.own.contains i)) with
    | none => rw [e1] at hh; cases hh
    | some q =>
      rw [e1] at hh
      cases e2 : ts.mapM (fun t => (isName t).bind fun x => (c.loc x).map fun i => (i, c.own.contains i)) with
      | none => rw [e2] at hh; cases hh
      | some us =>
        rw [e2] at hh
        have hh : some (q :: us) = some own := hh
        cases hh
        obtain ⟨x, hx, hq⟩ := Option.bind_eq_some_iff.mp e1
        obtain ⟨i, hl, rfl⟩ := Option.map_eq_some_iff.mp hq
        unfold isName at hx
        split at hx
        · cases hx
          obtain ⟨a, b, d⟩ := h.loc x i hl
          exact .cons a b d (par_ok h e2)
        · cases hx
end
end EV

set_option Elab.async false
set_option linter.all false
set_option maxRecDepth 100000
set_option maxHeartbeats 2000000
/-! EV37: the compile is right: blocks (own work). -/
namespace EV
open PySem PySem.Spec PyProof.Rows L2
section
variable {X : Cx} {c : Cc} {C : Cfg}
def SOk (X : Cx) (C : Cfg) (st : Stmt) (s : CS) : Prop := PS X st (TSt X (evS C s) (stoS s))
theorem sOk {st : Stmt} {s : CS} {ix : List Nat} (h : PS X st (TSt X (evS C s) ix)) (hs : stoS s = ix := by first | rfl | simp [stoS]) : SOk X C st s := by
  unfold SOk
  rw [hs]
  exact h
theorem sOkN {st : Stmt} : SOk X C st .nev := sNev
theorem cS_asg (B : BodyOk X c C) {t : Expr} {e : Expr} {pos : Pos} {n : Nat} : SOk X C (.Assign [t] e pos) (cS c (n + 1) (.Assign [t] e pos)) := by
  have h := B.ctx
  cases t with
  | Name x p =>
    show SOk X C _ (match c.loc x with
        | some i => (match cE c true 60 e with
            | some e' => if (notComp e || isLc e) = true then (if c.own.contains i = true then CS.asgO i e' else .asg (.nm i) e') else .nev
            | none => .nev)
        | none => .nev)
    split
    · rename_i i hl
      obtain ⟨a, b, d⟩ := h.loc x i hl
      split
      · rename_i e' he
        split
        · rename_i hc
          have hi : i < X.N.length := (List.getElem?_eq_some_iff.mp a).1
          have asgO : PS X (.Assign [.Name x p] e pos) (TSt X (evS C (.asgO i e')) [i]) := by
            by_cases hn : notComp e = true
            · exact sAsgO h.nd a b d hn (cE_ok h he).pe
            · have hl : isLc e = true := by
                rw [Bool.or_eq_true] at hc
                exact hc.resolve_left hn
              cases e with
              | ListComp elt gens sc q => exact sLcO h a b d he
              | _ => cases hl
          split
          · exact sOk asgO
          · exact sOk (frzNm hi asgO) (by simp [stoS, tgtIx])
        · exact sOkN
      · exact sOkN
    · exact sOkN
  | Tuple ts k p =>
    have gen : notTup e = true → (cS c (n + 1) (.Assign [.Tuple ts k p] e pos) = if (!notComp e) = true then .nev else (match cT c 60 (.Tuple ts k p), cE c true 60 e with
          | some t', some e' => .asg t' e'
          | _, _ => .nev)) → SOk X C (.Assign [.Tuple ts k p] e pos) (cS c (n + 1) (.Assign [.Tuple ts k p] e pos)) := fun hn hq => by
      rw [hq]
      split
      · exact sOkN
      · split
        · rename_i t' e' ht he
          have tg := cT_ok h ht
          cases tg with
          | tup g => exact sOk (sAsgT h.nd h.calm (.tup g) hn (cE_ok h he).pe)
        · exact sOkN
    cases e with
    | Tuple es k2 p2 =>
      show SOk X C _ (if ts.length = es.length ∧ ts.length ≤ 1000 ∧ (swK c.sc ts es).isSome = true then (match parOf c ts, cL c true 60 es with
          | some own, some es' => CS.par own es'
          | _, _ => .nev) else .nev)
      split
      · rename_i hc
        obtain ⟨_, h2, h3⟩ := hc
        obtain ⟨b, h3⟩ := Option.isSome_iff_exists.mp h3
        split
        · rename_i own es' ho hes
          obtain ⟨_, _, l3, l4⟩ := (ih_all 60).l h hes
          exact sOk (sPar h.nd h.calm B.bk (par_ok h ho) (by rw [B.sc]; exact h3) h2 l3 l4)
        · exact sOkN
      · exact sOkN
    | _ => exact gen rfl rfl
  | Subscript o k p =>
    have gen : notSlice k = true → SOk X C (.Assign [.Subscript o k p] e pos) (match cR c 60 o, cE c false 60 k, cE c true 60 e with
          | some p, some k', some e' => .put p.1 p.2 k' e'
          | _, _, _ => .nev) := fun hs => by
      split
      · rename_i q k' e' hr hk he
        have hu : X.A.units + 1 < cLine := by have := h.room.1; omega
        exact sOk (sPut hu hs ((ih_all 60).r h hr).2 (cE_ok h hk).pe (cE_ok h he).pe)
      · exact sOkN
    cases k with
    | Slice _ _ _ _ => exact sOkN
    | _ => exact gen rfl
  | _ => exact sOkN
mutual
theorem cS_ok (B : BodyOk X c C) : ∀ (n : Nat) (s : Stmt), SOk X C s (cS c n s)
  | 0, s => by simpa [cS] using (sOkN (X := X) (C := C) (st := s))
  | n + 1, s => by
    have h := B.ctx
    cases s with
    | Assign ts e pos =>
      match ts with
      | [t] => exact cS_asg B
      | [] => exact sOkN
      | _ :: _ :: _ => exact sOkN
    | AugAssign t op e pos =>
      cases t with
      | Name x p =>
        show SOk X C _ (match c.loc x, cOp op, cE c false 60 e with
          | some i, some o, some e' => CS.aug i o e'
          | _, _, _ => .nev)
        split
        · rename_i i o e' hl ho he
          obtain ⟨a, b, d⟩ := h.loc x i hl
          exact sOk (sAug h.nd a b d ho (cE_ok h he).pe)
        · exact sOkN
      | _ => exact sOkN
    | Expr e pos =>
      show SOk X C _ (if isDoc e = true then CS.pas else if (!notComp e) = true then .nev else (match cE c false 60 e with
          | some e' => .exp e'
          | none => .nev))
      split
      · rename_i hd
        unfold isDoc at hd
        split at hd
        · exact sOk sDoc
        · cases hd
      · split
        · exact sOkN
        · rename_i hn
          split
          · rename_i e' he
            exact sOk (sExp (by simpa using hn) (cE_ok h he).pe)
          · exact sOkN
    | Return v pos =>
      cases v with
      | none => exact sOk sRetN
      | some e =>
        have gen : SOk X C (.Return (some e) pos) (match cE c true 60 e with
            | some e' => .ret e'
            | none => .nev) := by
          split
          · rename_i e' he
            exact sOk (sRet (cE_ok h he).pe)
          · exact sOkN
        show SOk X C _ (match isName e with
          | some x => (match c.slot x with
            | some i => if c.own.contains i = true ∧ x ≠ ("__debug__" : Str) ∧ x ≠ ("__classdict__" : Str) then CS.retO i else (match cE c true 60 e with
              | some e' => .ret e'
              | none => .nev)
            | none => (match cE c true 60 e with
              | some e' => .ret e'
              | none => .nev))
          | none => (match cE c true 60 e with
            | some e' => .ret e'
            | none => .nev))
        split
        · rename_i x hx
          split
          · rename_i i hs
            split
            · rename_i hc
              unfold isName at hx
              split at hx
              · cases hx
                obtain ⟨a, b⟩ := h.slot x i hs
                exact sOk (sRetO a b (neb hc.2.1) (neb hc.2.2))
              · cases hx
            · exact gen
          · exact gen
        · exact gen
    | If t a b pos =>
      show SOk X C _ (match cE c false 60 t with
          | some t' => CS.ifs t' (cB c n a) (cB c n b)
          | none => .nev)
      split
      · rename_i t' ht
        exact sOk (sIf (cE_ok h ht).pt (cB_ok B n a) (cB_ok B n b)) rfl
      · exact sOkN
    | While t b orl pos =>
      cases orl with
      | nil =>
        show SOk X C _ (match cE c false 60 t with
          | some t' => CS.whl t' (cB c n b)
          | none => .nev)
        split
        · rename_i t' ht
          exact sOk (sWhl B.own (cE_ok h ht).pt (cB_ok B n b))
        · exact sOkN
      | cons _ _ => exact sOkN
    | For tg it b orl pos =>
      cases orl with
      | nil =>
        show SOk X C _ (match cI c 60 tg it, cT c 60 tg with
          | some it', some t' => CS.fo t' it' (cB c n b)
          | _, _ => .nev)
        split
        · rename_i it' t' hi ht
          obtain ⟨i1, i2⟩ := (ih_all 60).i h hi
          have tg := cT_ok h ht
          exact sOk (sFor B.own h.calm h.nd (i1 t' tg.tupT) tg i2 (cB_ok B n b)) rfl
        · exact sOkN
      | cons _ _ => exact sOkN
    | Break pos => exact sOk sBrk
    | Continue pos => exact sOk sCnt
    | Pass pos => exact sOk sPass
    | _ => exact sOkN
theorem cB_ok (B : BodyOk X c C) : ∀ (n : Nat) (b : List Stmt), PSs X b (TSt X (evB C (cB c n b)) (stoB (cB c n b)))
  | 0, b => ⟨fun pins s σ H D I ⟨env, F, fl, env', ho, he, g⟩ => by simp [cB, evB, evS] at he⟩
  | n + 1, [] => by
    show PSs X [] (TSt X (evB C .nil) (stoB .nil))
    have : stoB .nil = [] := by simp [stoB]
    rw [this]
    exact ssNil
  | n + 1, s :: b => ssCons (cS_ok B n s) (cB_ok B n b)
end
end
end EV

set_option Elab.async false
set_option linter.all false
set_option maxRecDepth 100000
set_option maxHeartbeats 2000000
/-! EV38: defs keep their small form's promise (own work). -/
namespace EV
open PySem PySem.Spec PyProof.Rows L2
section
variable {P : Program} {w : World} {K : Frg} {H H' : Hp}
theorem env_start : ∀ {vs : List V} {ss : List Sl} {G : List Addr} (m : Nat), SlsO P w K H vs ss G → EnvOk P w K H (vs.map some ++ List.replicate m none) (ss.map some ++ List.replicate m none) G
  | _, _, _, 0, .nil => .nil
  | _, _, _, m + 1, .nil => by
    have := EnvOk.cons (P := P) (w := w) (K := K) (H := H) (x := none) (sl := none) (G := []) rfl (env_start m .nil) (fun a h => by simp at h)
    simpa [List.replicate_succ] using this
  | _, _, _, m, @SlsO.cons _ _ _ _ v sl vs ss G G' h t d => by
    refine EnvOk.cons ?_ (env_start m t) d
    match sl, h with
    | .val d, h => exact ⟨h.1, v, rfl, h.2⟩
    | .own o, h => exact ⟨v, rfl, h⟩
theorem outs_ok (s : Stb H H') : ∀ {vs : List V} {ss : List Sl} {G : List Addr} {σ' : L2.St} {env' : Ev} {F' : List Addr} {outs : List Sl}, SlsO P w K H vs ss G → EnvOk P w K H' σ' env' F' → (∀ (i : Nat) o v, ss[i]? = some (.own o) → vs[i]? = some v → σ'[i]? = some (some v)) → outsOf ss env' = some outs →
    ∃ G', SlsO P w K H' vs outs G' ∧ ∀ a ∈ G', a ∈ F'
  | _, _, _, _, _, _, outs, .nil, _, _, ho => by
    have ho : some [] = some outs := by simpa [outsOf] using ho
    cases ho
    exact ⟨[], .nil, fun a h => by simp at h⟩
  | _, _, _, _, _, _, outs, @SlsO.cons _ _ _ _ v sl vs ss G1 G2 h t d, ok, hs, ho => by
    cases ok with
    | nil => cases sl <;> simp [outsOf] at ho
    | @cons x sl' σ env Ga Fa h1 h2 h3 =>
      have hs' : ∀ (i : Nat) o v, ss[i]? = some (.own o) → vs[i]? = some v → σ[i]? = some (some v) := fun i o v e1 e2 => by
        have := hs (i + 1) o v (by simpa using e1) (by simpa using e2)
        simpa using this
      match sl, h, ho with
      | .val dd, h, ho =>
        obtain ⟨o1, e1, rfl⟩ := Option.map_eq_some_iff.mp (show (outsOf ss env).map (Sl.val dd :: ·) = some outs by simpa [outsOf] using ho)
        obtain ⟨G', r1, r2⟩ := outs_ok s t h2 hs' e1
        exact ⟨[] ++ G', .cons (show SlV P w K H' v (.val dd) [] from ⟨rfl, Rl.stb s dd h.2⟩) r1 (fun a h => by simp at h), fun a ha => List.mem_append_right _ (r2 a (by simpa using ha))⟩
      | .own o, h, ho =>
        match sl', h1, ho with
        | some (.own o'), h1, ho =>
          obtain ⟨o1, e1, rfl⟩ := Option.map_eq_some_iff.mp (show (outsOf ss env).map (Sl.own o' :: ·) = some outs by simpa [outsOf] using ho)
          obtain ⟨G', r1, r2⟩ := outs_ok s t h2 hs' e1
          have hv := hs 0 o v rfl rfl
          obtain ⟨v', hx, ow⟩ := h1
          subst hx
          simp at hv
          subst hv
          exact ⟨Ga ++ G', .cons (show SlV P w K H' v' (.own o') Ga from ow) r1 fun a ha hb => h3 a ha (r2 a hb), fun a ha => (List.mem_append.mp ha).elim (List.mem_append_left _) fun z => List.mem_append_right _ (r2 a z)⟩
        | some (.val _), _, ho => simp [outsOf] at ho
        | none, _, ho => simp [outsOf] at ho
theorem own_at : ∀ {ss : List Sl} {n i : Nat} {o : O}, ss[i]? = some (.own o) → n + i ∈ ownIx n ss
  | [], _, _, _, h => by simp at h
  | .val d :: ss, n, 0, o, h => by simp at h
  | .val d :: ss, n, i + 1, o, h => by
    have := own_at (n := n + 1) (show ss[i]? = some (.own o) by simpa using h)
    have e : n + (i + 1) = n + 1 + i := by omega
    rw [e]
    exact this
  | .own o' :: ss, n, 0, o, h => by simp [ownIx]
  | .own o' :: ss, n, i + 1, o, h => by
    have := own_at (n := n + 1) (show ss[i]? = some (.own o) by simpa using h)
    have e : n + (i + 1) = n + 1 + i := by omega
    rw [e]
    exact List.mem_cons_of_mem _ this
/-- what runFn tells -/
theorem runFn_some {C : Cfg} {f : Fn} {as : List Sl} {r : RV} {outs : List Sl} (h : runFn C f as = some (r, outs)) : as.length = f.ps.length ∧ (∀ (i : Nat) o, as[i]? = some (.own o) → i ∉ stoB f.body) ∧
    ∃ fl env, evB C f.body (as.map some ++ List.replicate (f.n - as.length) none) = some (fl, env) ∧ outsOf as env = some outs ∧ (fl = .ret r ∨ (fl = .next ∧ r = .val .none)) := by
  unfold runFn at h
  split at h
  · rename_i hc
    refine ⟨hc.1, fun i o e => ?_, ?_⟩
    · have := own_at (n := 0) e
      rw [Nat.zero_add] at this
      have := List.all_eq_true.mp hc.2 i this
      simpa using this
    · split at h
      · rename_i r' env he
        obtain ⟨o, ho, e⟩ := Option.map_eq_some_iff.mp h
        cases e
        exact ⟨_, env, he, ho, .inl rfl⟩
      · rename_i env he
        obtain ⟨o, ho, e⟩ := Option.map_eq_some_iff.mp h
        cases e
        exact ⟨_, env, he, ho, .inr ⟨rfl, rfl⟩⟩
      · cases h
  · cases h
end
end EV

set_option Elab.async false
set_option linter.all false
set_option maxRecDepth 100000
set_option maxHeartbeats 2000000
/-! EV39: a def keeps its promise; the depth of calls (own work). -/
namespace EV
open PySem PySem.Spec PyProof.Rows L2
theorem fn_ok {P : Program} {w : World} {K : Frg} {mg : Str → Option Value} {base : Heap} {k : Nat} {f : Addr} {nm qn : Str} {prm : Arguments} {bd : List Stmt} {sc : Scope} {kV doc pm cdv ct oc : Value}
    {an od : Option Addr} {sl : Array (Option Value)} {N ps : List Str} {dV : Value}
    (lk : K.lookup f = some ⟨oc, od, .func (PySem.W.fnOf nm qn prm bd sc dV kV doc pm an cdv ct), sl⟩) (hc : PySem.W.codeIn K cdv qn = true) (S : FnScope N ps sc) {c : Cc} {C : Cfg}
    (hb : ∀ (A : Around) (fr : List Env) (s : Shared) (H : Hp) (E : XK), Room k (A.deeper (envOfC qn sc s.heap.objs.size f cdv)) → A.guards = some [] → BodyOk (cxOf CX0 P w K mg base N qn sc f cdv A fr s H E) c C) :
    FnG P w K mg base CX0 (k + 1) f (PySem.W.fnOf nm qn prm bd sc dV kV doc pm an cdv ct) ps (SpC P w K (runFn C ⟨ps, N.length, cB c 60 bd⟩)) := by
  have len : ∀ vs H Q E, SpC P w K (runFn C ⟨ps, N.length, cB c 60 bd⟩) vs H Q E → vs.length = ps.length := fun vs H Q E ⟨ss, G, r, outs, h1, h2, _⟩ => by
    rw [slsO_len h1]
    exact (runFn_some h2).1
  refine fnG_of lk hc S len fun A fr s H vs Q E hr hg hsp => ?_
  have B := hb A fr s H E hr hg
  refine ⟨_, cB_ok B 60 bd, ?_⟩
  obtain ⟨ss, G, r, outs, h1, h2, q⟩ := hsp
  obtain ⟨hl, hst, fl, env, he, ho, hfl⟩ := runFn_some h2
  have lv := slsO_len h1
  have e0 : EnvOk P w K H (start N vs) (ss.map some ++ List.replicate (N.length - ss.length) none) G := by
    have := env_start (N.length - ss.length) h1
    unfold L2.start
    rw [lv]
    exact this
  have get0 : ∀ (i : Nat) v, vs[i]? = some v → (start N vs)[i]? = some (some v) := fun i v e => by
    unfold L2.start
    rw [List.getElem?_append_left (by rw [List.length_map]; exact (List.getElem?_eq_some_iff.mp e).1), List.getElem?_map, e]
    rfl
  -- the end
  have fin : ∀ {v : V} {σ' : L2.St} {H' : Hp} {F' Gr : List Addr}, Bst (cxOf CX0 P w K mg base N qn sc f cdv A fr s H E) (start N vs) H G (stoB (cB c 60 bd)) σ' H' env F' → RvP P w K H' v r Gr → Apart H G F' Gr → Q v H' := by
    intro v σ' H' F' Gr b rv ap
    obtain ⟨G', r1, r2⟩ := outs_ok b.stb h1 b.ok (fun i o v e1 e2 => by
      rw [b.out i (hst i o e1)]
      exact get0 i v e2) ho
    refine q v H' G' Gr r1 rv (fun a ha hb => ap.off a ha (r2 a hb)) (fun a ha => ?_) b.but b.nn
    rcases ha with z | z
    · exact b.sub a (r2 a z)
    · exact ap.sub a z
  refine ⟨_, G, fl, env, e0, he, ?_⟩
  rcases hfl with rfl | ⟨rfl, rfl⟩
  · intro v σ' H' F' Gr b rv ap nb
    refine fin b ?_ ap
    match r, rv, nb with
    | .val d, rv, _ => exact rv
    | .own o, rv, _ => exact rv
  · intro σ' H' F' b
    exact fin b (show RvP P w K H' .non (.val .none) [] from ⟨rfl, .non⟩) Apart.nil
/-- run one deeper: by runFn -/
theorem run_pos {P : Prg} {n : Nat} {f : Str} {fn : Fn} (h : P.fns.lookup f = some fn) (ss : List Sl) : run P (n + 1) f [] ss = runFn ⟨run P n, P.glob, P.wf⟩ fn ss := by
  simp [run, h]
theorem run_kw {P : Prg} {n : Nat} {f : Str} {fn : Fn} (h : P.fns.lookup f = some fn) (ks : List Str) (ss : List Sl) (hk : ks ≠ []) :
    run P (n + 1) f ks ss = if (ownIx 0 ss).isEmpty then (byName fn.ps ks ss).bind fun ss' => (runFn ⟨run P n, P.glob, P.wf⟩ fn ss').map fun p => (p.1, ss) else none := by
  have e : ks.isEmpty = false := by cases ks <;> first | exact absurd rfl hk | rfl
  simp [run, h, e]
end EV

set_option Elab.async false
set_option linter.all false
set_option maxRecDepth 100000
set_option maxHeartbeats 2000000
/-! EV40: a program's defs, by the depth of calls (own work). -/
namespace EV
open PySem PySem.Spec PyProof.Rows L2
/-- a def of the module as it stands in the written part -/
structure DefO (K : Frg) (mg : Str → Option Value) (hs : List Hint) (glb : List Str) (h : Hint) (st : Stmt) (fa : Addr) (fd : FuncData) : Prop where
  mg : mg h.name = some (.ref fa)
  kp : PySem.W.keepIn K (.ref fa) = true
  lk : ∃ (oc : Value) (od : Option Addr) (nm qn : Str) (kV doc pm : Value) (an : Option Addr) (cdv ct : Value) (sl : Array (Option Value)),
    fd = PySem.W.fnOf nm qn (defArgs st) (defBody st) (defScope st) .none kV doc pm an cdv ct ∧ K.lookup fa = some ⟨oc, od, .func fd, sl⟩ ∧ PySem.W.codeIn K cdv qn = true
  sc : FnScope h.N ((defArgs st).args.map (·.arg)) (defScope st)
  fd : PlainFd fd ((defArgs st).args.map (·.arg))
  nd : ((defArgs st).args.map (·.arg)).Nodup
/-- the module's other facts -/
structure ModO (P : Program) (w : World) (K : Frg) (mg : Str → Option Value) (fns glb : List Str) (glob : Str → Option D) : Prop where
  free : ∀ x, x ∈ bltNames → fns.contains x = false → glb.contains x = false → mg x = none
  glo : ∀ x, glb.contains x = true → ∃ u v d, mg x = some u ∧ RelV v u ∧ glob x = some d ∧ ∀ H, Rl true P w K H v d
section
variable {P : Program} {w : World} {K : Frg} {mg : Str → Option Value} {hs : List Hint} {glb : List Str} {tops : List Stmt} {glob : Str → Option D} {wf : Nat}
def prgOf (hs : List Hint) (glb : List Str) (tops : List Stmt) (glob : Str → Option D) (wf : Nat) : Prg := ⟨(hs.zip tops).map fun p => (p.1.name, cFn hs glb p.1 p.2), glob, wf⟩
theorem look_fn {f : Str} {fn : Fn} : ∀ {l : List (Hint × Stmt)}, (l.map fun p => (p.1.name, cFn hs glb p.1 p.2)).lookup f = some fn → ∃ p ∈ l, p.1.name = f ∧ fn = cFn hs glb p.1 p.2
  | [], h => by simp at h
  | p :: l, h => by
    rw [List.map_cons, List.lookup_cons] at h
    cases e : f == p.1.name with
    | true =>
      rw [e] at h
      cases h
      exact ⟨p, List.mem_cons_self, (beq_iff_eq.mp e).symm, rfl⟩
    | false =>
      rw [e] at h
      obtain ⟨q, h1, h2⟩ := look_fn h
      exact ⟨q, List.mem_cons_of_mem _ h1, h2⟩
theorem look_has {f : Str} : ∀ {l : List (Hint × Stmt)}, (∃ p ∈ l, p.1.name = f) → ∃ fn, (l.map fun p => (p.1.name, cFn hs glb p.1 p.2)).lookup f = some fn
  | [], h => by obtain ⟨p, hp, _⟩ := h; simp at hp
  | p :: l, h => by
    rw [List.map_cons, List.lookup_cons]
    cases e : f == p.1.name with
    | true => exact ⟨_, rfl⟩
    | false =>
      refine look_has ?_
      obtain ⟨q, hq, hn⟩ := h
      rcases List.mem_cons.mp hq with rfl | hq
      · rw [hn] at e; simp at e
      · exact ⟨q, hq, hn⟩
/-- every def keeps its promise, calls n deep -/
theorem prog_ok (D : ∀ p ∈ hs.zip tops, ∃ fa fd, DefO K mg hs glb p.1 p.2 fa fd) (hl : hs.length = tops.length) (M : ModO P w K mg (hs.map (·.name)) glb glob) : ∀ (n : Nat) (f : Str) (fn : Fn), (prgOf hs glb tops glob wf).fns.lookup f = some fn →
    ∃ (fa : Addr) (fd : FuncData), mg f = some (.ref fa) ∧ PySem.W.keepIn K (.ref fa) = true ∧ PlainFd fd fn.ps ∧ fn.ps.Nodup ∧ ∀ base : Heap, FnG P w K mg base CX0 n fa fd fn.ps (SpC P w K (run (prgOf hs glb tops glob wf) n f []))
  | 0, f, fn, hf => by
    obtain ⟨p, hp, hn, rfl⟩ := look_fn hf
    obtain ⟨fa, fd, d⟩ := D p hp
    refine ⟨fa, fd, hn ▸ d.mg, d.kp, d.fd, d.nd, fun base => ⟨fun vs H Q E h => ?_, fun A fr s H ar us vs Q E _ _ _ _ _ h => ?_⟩⟩
    · obtain ⟨ss, G, r, outs, _, h2, _⟩ := h
      simp [run] at h2
    · obtain ⟨ss, G, r, outs, _, h2, _⟩ := h
      simp [run] at h2
  | n + 1, f, fn, hf => by
    have ih := prog_ok D hl M n
    have hf' := hf
    obtain ⟨p, hp, hn, rfl⟩ := look_fn hf
    obtain ⟨fa, fd, d⟩ := D p hp
    obtain ⟨oc, od, nm, qn, kV, doc, pm, an, cdv, ct, sl, rfl, lk, hc⟩ := d.lk
    refine ⟨fa, _, hn ▸ d.mg, d.kp, d.fd, d.nd, fun base => ?_⟩
    have e1 : run (prgOf hs glb tops glob wf) (n + 1) f [] = runFn ⟨run (prgOf hs glb tops glob wf) n, glob, wf⟩ (cFn hs glb p.1 p.2) := by
      funext ss
      exact run_pos hf' ss
    rw [e1]
    refine fn_ok lk hc d.sc (c := ⟨p.1.N, defScope p.2, p.1.own.filterMap (ixOf p.1.N), mutsOf hs, hs.map (·.name), glb⟩) (C := ⟨run (prgOf hs glb tops glob wf) n, glob, wf⟩) fun A fr s H E hr hg => ⟨⟨d.sc.nd, rfl, rfl, ?_, fun x i hx => ?_, fun x i hx => ?_, fun x hx => ?_, fun sc own hb => blkOk_by hb, M.free, M.glo, fun g hgf => ?_⟩, passes_of rfl, ?_, rfl⟩
    · refine ⟨by have := hr.un; show (A.deeper _).units + 200 < _; omega, hr.hd, ?_⟩
      exact hg
    · obtain ⟨a, b⟩ := slot_some hx
      exact ⟨ixOf_get a, b⟩
    · obtain ⟨a, b⟩ := loc_some hx
      exact ⟨ixOf_get a, b, .inl rfl⟩
    · have e : (defScope p.2).names.lookup x = some .globalImplicit := of_decide_eq_true hx
      exact e
    · have : ∃ q ∈ hs.zip tops, q.1.name = g := by
        have hgf : (hs.map (·.name)).contains g = true := hgf
        have := List.contains_iff_mem.mp hgf
        obtain ⟨h0, hm, e⟩ := List.mem_map.mp this
        obtain ⟨i, hi, ei⟩ := List.mem_iff_getElem.mp hm
        refine ⟨(hs[i], tops[i]'(by omega)), ?_, by rw [ei]; exact e⟩
        exact List.mem_iff_getElem.mpr ⟨i, by rw [List.length_zip]; omega, by rw [List.getElem_zip]⟩
      obtain ⟨fn2, hf2⟩ := look_has (hs := hs) (glb := glb) this
      obtain ⟨fa2, fd2, m2, k2, p2, n2, g2⟩ := ih g fn2 hf2
      refine ⟨fa2, fd2, fn2.ps, n, run (prgOf hs glb tops glob wf) n g [], ⟨m2, k2, p2, n2, g2 _, hr, fun ss => rfl, fun ks ss hk => ?_⟩⟩
      cases n with
      | zero =>
        show none = _
        have z : ∀ ss', run (prgOf hs glb tops glob wf) 0 g [] ss' = none := fun _ => rfl
        simp [z]
      | succ m =>
        show run (prgOf hs glb tops glob wf) (m + 1) g ks ss = _
        rw [run_kw hf2 ks ss hk]
        have e2 : run (prgOf hs glb tops glob wf) (m + 1) g [] = runFn ⟨run (prgOf hs glb tops glob wf) m, (prgOf hs glb tops glob wf).glob, (prgOf hs glb tops glob wf).wf⟩ fn2 := by
          funext ss
          exact run_pos hf2 ss
        rw [e2]
    · show (if (defScope p.2).kind.isAnnotationScope = true then ScopeKind.function else (defScope p.2).kind) = .function
      rw [d.sc.kind]
      rfl
end
end EV

set_option Elab.async false
set_option linter.all false
set_option maxRecDepth 100000
set_option maxHeartbeats 2000000
/-! EV41: the law's def (own work). -/
namespace EV
open PySem PySem.Spec PyProof.Rows L2
theorem ints_rl {P : Program} {w : World} {K : Frg} {H : Hp} : ∀ ns : List Int, RlA true P w K H (ns.map V.int) (ns.map PyData.int)
  | [] => .nil
  | n :: ns => .cons (.int n) (ints_rl ns)
/-- the law answers True -/
theorem law_sp {P : Program} {w : World} {K : Frg} {H : Hp} {a : Addr} {ns : List Int} {c : List Sl → Option (RV × List Sl)} {outs : List Sl} (h : c [.val (.list (ns.map PyData.int))] = some (.val (.bool true), outs)) (l : LR true K H a (ns.map V.int)) :
    SpC P w K c [.ref a] H (fun v _ => v = .bl true) E0 := by
  refine ⟨[.val (.list (ns.map PyData.int))], [], _, outs, ?_, h, fun v H' G' Gr _ hr _ _ _ _ => ?_⟩
  · exact SlsO.cons (G := []) (G' := []) (show SlV P w K H (.ref a) (.val (.list (ns.map PyData.int))) [] from ⟨rfl, .lst l (ints_rl ns)⟩) .nil (fun a h => by simp at h)
  · obtain ⟨_, rl⟩ := (show Gr = [] ∧ Rl true P w K H' v (.bool true) from hr)
    cases rl
    rfl
end EV

set_option Elab.async false
set_option linter.all false
set_option maxRecDepth 100000
set_option maxHeartbeats 2000000
/-! EV42: a constant of the module told by one look (own work). -/
namespace EV
open PySem PySem.Spec PyProof.Rows L2
abbrev Hs := List (Str × Int)
def allO (f : Value → D → Option Hs) : List Value → List D → Option Hs
  | [], [] => some []
  | u :: us, d :: ds => (f u d).bind fun l => (allO f us ds).map (l ++ ·)
  | _, _ => none
def keyO : Value → Int → D → Option (Key × Hs)
  | .int i _, h, .int j => if i = j ∧ h = hashInt i then some (.inl i, []) else none
  | .str x _, h, .str y => if x = y then some (.inr x, [(x, h)]) else none
  | _, _, _ => none
def allK (f : Value → D → Option Hs) : List DictEntry → List (D × D) → Option (List Key × Hs)
  | [], [] => some ([], [])
  | e :: es, (k, d) :: kds => (keyO e.key e.hash k).bind fun q => (f e.val d).bind fun l => (allK f es kds).map fun r => (q.1 :: r.1, q.2 ++ l ++ r.2)
  | _, _ => none
/-- the value is this datum, up to the hashes of its text keys -/
def rlO (K : Frg) : Nat → Value → D → Option Hs
  | _, .none, .none => some []
  | _, .bool b, .bool c => if b = c then some [] else none
  | _, .int i _, .int j => if i = j then some [] else none
  | _, .str x _, .str y => if x = y then some [] else none
  | n + 1, .ref a, .tuple ds => (match K.lookup a with
    | some ⟨.type c, none, .seq us _, _⟩ => if c = "tuple" ∧ us.toList.length ≤ sizeLine then allO (rlO K n) us.toList ds else none
    | _ => none)
  | n + 1, .ref a, .list ds => (match K.lookup a with
    | some ⟨.type c, none, .seq us _, sl⟩ => if c = "list" ∧ us.toList.length ≤ sizeLine ∧ sl.isEmpty = true then allO (rlO K n) us.toList ds else none
    | _ => none)
  | n + 1, .ref a, .dict kds => (match K.lookup a with
    | some ⟨.type c, none, .dict es _, sl⟩ => if c = "dict" ∧ es.toList.length ≤ sizeLine ∧ sl.isEmpty = true ∧ (a == sysModules) = false then (match allK (rlO K n) es.toList kds with
      | some (ks, l) => if ks.Nodup then some l else none
      | none => none) else none
    | _ => none)
  | _, _, _ => none
section
variable {P : Program} {w : World} {K : Frg}
def HOk (w : World) (l : Hs) : Prop := ∀ p ∈ l, p.2 = hashStr w p.1
theorem HOk.left {a b : Hs} (h : HOk w (a ++ b)) : HOk w a := fun p hp => h p (List.mem_append_left _ hp)
theorem HOk.right {a b : Hs} (h : HOk w (a ++ b)) : HOk w b := fun p hp => h p (List.mem_append_right _ hp)
def RlC (P : Program) (w : World) (K : Frg) (u : Value) (d : D) : Prop := ∃ v, RelV v u ∧ ∀ H, Rl true P w K H v d
theorem allO_ok {f : Value → D → Option Hs} (hf : ∀ u d l, f u d = some l → HOk w l → RlC P w K u d) : ∀ {us : List Value} {ds : List D} {l : Hs}, allO f us ds = some l → HOk w l →
    ∃ vs, Vals vs us ∧ ∀ H, RlA true P w K H vs ds
  | [], [], _, _, _ => ⟨[], .nil, fun _ => .nil⟩
  | [], _ :: _, _, h, _ => by cases h
  | _ :: _, [], _, h, _ => by cases h
  | u :: us, d :: ds, l, h, ho => by
    obtain ⟨l1, h1, h2⟩ := Option.bind_eq_some_iff.mp (show ((f u d).bind fun l => (allO f us ds).map (l ++ ·)) = some l from h)
    obtain ⟨l2, h3, rfl⟩ := Option.map_eq_some_iff.mp h2
    obtain ⟨v, r, hv⟩ := hf u d l1 h1 ho.left
    obtain ⟨vs, rs, hvs⟩ := allO_ok hf h3 ho.right
    exact ⟨v :: vs, .cons r rs, fun H => .cons (hv H) (hvs H)⟩
theorem keyO_ok {u : Value} {h : Int} {k : D} {q : Key × Hs} (e : keyO u h k = some q) (ho : HOk w q.2) : (mixKind P w).is q.1 u = true ∧ h = (mixKind P w).hash q.1 ∧ k = kD q.1 := by
  unfold keyO at e
  split at e
  · split at e
    · rename_i c
      obtain ⟨rfl, rfl⟩ := c
      cases e
      exact ⟨mixKind_int P w _ _, rfl, rfl⟩
    · cases e
  · split at e
    · rename_i c
      subst c
      cases e
      exact ⟨mixKind_str P w _ _, ho (_, _) (List.mem_cons_self ..), rfl⟩
    · cases e
  · cases e
theorem allK_ok {f : Value → D → Option Hs} (hf : ∀ u d l, f u d = some l → HOk w l → RlC P w K u d) : ∀ {es : List DictEntry} {kds : List (D × D)} {ks : List Key} {l : Hs}, allK f es kds = some (ks, l) → HOk w l →
    ∃ (kvs : List (Key × V)) (vs : List (Key × Value)), kvs.map (·.1) = ks ∧ vs.map (·.1) = ks ∧ KV kvs vs ∧ Pairs (mixKind P w) es vs ∧ (∀ e ∈ es, ∃ k, (mixKind P w).is k e.key = true ∧ e.hash = (mixKind P w).hash k) ∧ ∀ H, RlK true P w K H kvs kds
  | [], [], _, _, h, _ => by
    cases h
    exact ⟨[], [], rfl, rfl, .nil, .nil, fun e h => by simp at h, fun _ => .nil⟩
  | [], _ :: _, _, _, h, _ => by cases h
  | _ :: _, [], _, _, h, _ => by cases h
  | e :: es, (k, d) :: kds, ks, l, h, ho => by
    obtain ⟨q, h1, h2⟩ := Option.bind_eq_some_iff.mp (show ((keyO e.key e.hash k).bind fun q => (f e.val d).bind fun l => (allK f es kds).map fun r => (q.1 :: r.1, q.2 ++ l ++ r.2)) = some (ks, l) from h)
    obtain ⟨l1, h3, h4⟩ := Option.bind_eq_some_iff.mp h2
    obtain ⟨⟨ks2, l2⟩, h5, h6⟩ := Option.map_eq_some_iff.mp h4
    cases h6
    obtain ⟨k1, k2, rfl⟩ := keyO_ok (P := P) h1 ho.left.left
    obtain ⟨v, r, hv⟩ := hf _ _ _ h3 ho.left.right
    obtain ⟨kvs, vs, a1, a2, a3, a4, a5, a6⟩ := allK_ok hf h5 ho.right
    exact ⟨(q.1, v) :: kvs, (q.1, e.val) :: vs, by simp [a1], by simp [a2], .cons ⟨rfl, r⟩ a3, .cons k1 rfl a4, fun e' he => by
      rcases List.mem_cons.mp he with rfl | he
      · exact ⟨_, k1, k2⟩
      · exact a5 e' he, fun H => .cons (hv H) (a6 H)⟩
theorem rlO_ok : ∀ (n : Nat) (u : Value) (d : D) (l : Hs), rlO K n u d = some l → HOk w l → RlC P w K u d := by
  intro n
  induction n with
  | zero =>
    intro u d l h ho
    unfold rlO at h
    split at h
    · exact ⟨.non, rfl, fun _ => .non⟩
    · split at h
      · rename_i c; subst c; exact ⟨.bl _, rfl, fun _ => .bl _⟩
      · cases h
    · split at h
      · rename_i c; subst c; exact ⟨.int _, ⟨_, rfl⟩, fun _ => .int _⟩
      · cases h
    · split at h
      · rename_i c; subst c; exact ⟨.str _, ⟨_, rfl⟩, fun _ => .str _⟩
      · cases h
    all_goals first | (exfalso; omega) | cases h
  | succ n ih =>
    intro u d l h ho
    unfold rlO at h
    split at h
    · exact ⟨.non, rfl, fun _ => .non⟩
    · split at h
      · rename_i c; subst c; exact ⟨.bl _, rfl, fun _ => .bl _⟩
      · cases h
    · split at h
      · rename_i c; subst c; exact ⟨.int _, ⟨_, rfl⟩, fun _ => .int _⟩
      · cases h
    · split at h
      · rename_i c; subst c; exact ⟨.str _, ⟨_, rfl⟩, fun _ => .str _⟩
      · cases h
    · rename_i m a ds hm
      cases hm
      split at h
      · rename_i c us k sl e
        split at h
        · rename_i g
          obtain ⟨rfl, g2⟩ := g
          obtain ⟨vs, r, hv⟩ := allO_ok (fun u d l e ho => ih u d l e ho) h ho
          exact ⟨.ref _, rfl, fun H => .tup (.inr ⟨_, us.toList, k, e, rfl, rfl, by simp, by rw [r.length]; exact g2, r⟩) (hv H)⟩
        · cases h
      · cases h
    · rename_i m a ds hm
      cases hm
      split at h
      · rename_i c us k sl e
        split at h
        · rename_i g
          obtain ⟨rfl, g2, g3⟩ := g
          obtain ⟨vs, r, hv⟩ := allO_ok (fun u d l e ho => ih u d l e ho) h ho
          have e3 : sl = #[] := Array.isEmpty_iff.mp g3
          subst e3
          exact ⟨.ref _, rfl, fun H => .lst (.inr (.inr ⟨us.toList, k, by simpa using e, by rw [r.length]; exact g2, r⟩)) (hv H)⟩
        · cases h
      · cases h
    · rename_i m a kds hm
      cases hm
      split at h
      · rename_i c es k sl e
        split at h
        · rename_i g
          obtain ⟨rfl, g2, g3, g4⟩ := g
          have e3 : sl = #[] := Array.isEmpty_iff.mp g3
          subst e3
          split at h
          · rename_i ks l2 q
            split at h
            · rename_i nd
              cases h
              obtain ⟨kvs, vs, a1, a2, a3, a4, a5, a6⟩ := allK_ok (P := P) (fun u d l e ho => ih u d l e ho) q ho
              exact ⟨.ref _, rfl, fun H => .dct (.inr (.inr ⟨g4, by rw [a3.length, ← a4.length]; exact g2, _, es, k, vs, e, ⟨rfl, rfl, rfl⟩, rfl, fun e' he => a5 e' (Array.mem_toList_iff.mpr he), a4, by rw [a2]; exact nd, a3⟩)) (a6 H)⟩
            · cases h
          · cases h
        · cases h
      · cases h
    · cases h
end
end EV

set_option Elab.async false
set_option linter.all false
set_option maxRecDepth 100000
set_option maxHeartbeats 2000000
/-! EV43: the head's facts of a program of plain defs and constants (own work). -/
namespace EV
open PySem PySem.Spec PyProof.Rows L2
def dOf (x : Str) (st : Stmt) : He.DefD := ⟨(x, none), x, x, defArgs st, defBody st, defScope st, [], []⟩
/-- constants: name, datum, its text keys in the order in which they are met -/
abbrev Con := Str × D × List Str
def conO (K : Frg) (c : Con) : Option Hs := match PySem.W.nsIn K mainGlobals c.1 with
  | some (some u) => rlO K 12 u c.2.1
  | _ => none
def conV (w : World) (c : Con) : Option Hs := some (c.2.2.map fun x => (x, hashStr w x))
abbrev AlW : Type := He.AlD × List (Option Hs)
def obsW (n : Nat) (fa : List He.Fa) (fn : List He.DefD) (cs : List Con) (g : Addr → Option Obj) : AlW := (He.obsD fa fn (He.frG g (He.asD g n)), cs.map (conO (He.frG g (He.asD g n))))
def valW (fn : List He.DefD) (cs : List Con) (w : World) : AlW := (He.valD fn, cs.map (conV w))
structure SaysW (fa : List He.Fa) (fn : List He.DefD) (cs : List Con) (w : World) (K : Frg) : Prop where
  d : He.SaysD fa fn K
  c : cs.map (conO K) = cs.map (conV w)
def hookW (n : Nat) (fa : List He.Fa) (fn : List He.DefD) (cs : List Con) : PySem.W.Hook where
  α := AlW
  obs := fun s => obsW n fa fn cs s.heap.get?
  val := fun w => valW fn cs w
  says := fun w h => ∃ K : Frg, K.In h ∧ SaysW fa fn cs w K
  of := fun _ _ e => ⟨_, He.frG_in, ⟨congrArg (fun z : AlW => z.1) e, congrArg (fun z : AlW => z.2) e⟩⟩
  keeps := fun _ _ _ ⟨K, hK, c⟩ k => ⟨K, PySem.W.Frag.In.keeps hK k, c⟩
theorem obsW_eq {n : Nat} {fa : List He.Fa} {fn : List He.DefD} {cs : List Con} {g : Addr → Option Obj} {s : Shared} (h : ∀ a, g a = s.heap.get? a) : obsW n fa fn cs g = (hookW n fa fn cs).obs s := by
  have e : g = s.heap.get? := funext h
  rw [e] <;> rfl
section
variable {P : Program} {w : World} {K : Frg} {mg : Str → Option Value} {h : Heap} {fa : List He.Fa} {fn : List He.DefD} {cs : List Con}
theorem con_ok (X : K.In h) (G : h.Ns mainGlobals mg) (S : SaysW fa fn cs w K) {c : Con} (hc : c ∈ cs) : ∃ u v, mg c.1 = some u ∧ RelV v u ∧ ∀ H, Rl true P w K H v c.2.1 := by
  have e : conO K c = conV w c := List.map_inj_left.mp S.c c hc
  unfold conO at e
  split at e
  · rename_i u hu
    obtain ⟨v, r, hv⟩ := rlO_ok (P := P) (w := w) 12 u c.2.1 _ e fun p hp => by
      obtain ⟨x, _, rfl⟩ := List.mem_map.mp hp
      rfl
    exact ⟨u, v, PySem.W.mg_of X G hu, r, hv⟩
  · cases e
theorem def_ok (X : K.In h) (G : h.Ns mainGlobals mg) (S : SaysW fa fn cs w K) {hs : List Hint} {glb : List Str} {p : Hint} {st : Stmt} (hd : dOf p.name st ∈ fn) (hf : He.Fa.glo p.name ∈ fa)
    (sc : FnScope p.N ((defArgs st).args.map (·.arg)) (defScope st)) (pl : (defArgs st).posonlyargs = [] ∧ (defArgs st).vararg = none ∧ (defArgs st).kwonlyargs = [] ∧ (defArgs st).kwarg = none) (nd : ((defArgs st).args.map (·.arg)).Nodup) :
    ∃ fa fd, DefO K mg hs glb p st fa fd := by
  obtain ⟨fd, F⟩ := S.d.defs hd
  obtain ⟨oc, od, dV, kV, doc, pm, an, cdv, ct, osl, rfl, lk, hcd, hD, _⟩ := F.ex
  have e : dV = .none := by
    rcases hD with ⟨_, e⟩ | ⟨ne, _⟩
    · exact e
    · exact absurd rfl ne
  subst e
  exact ⟨_, _, He.glo_ok X G (S.d.facts hf), F.kp, ⟨oc, od, _, _, kV, doc, pm, an, cdv, ct, osl, rfl, lk, hcd⟩, sc, ⟨pl.1, rfl, pl.2.1, pl.2.2.1, pl.2.2.2, rfl⟩, nd⟩
end
end EV

set_option Elab.async false
set_option linter.all false
set_option maxRecDepth 100000
set_option maxHeartbeats 2000000
/-! EV44: a law walked, given its answer in plain Lean (own work). -/
namespace EV
open PySem PySem.Spec PyProof.Rows L2
def plainA (a : Arguments) : Bool := a.posonlyargs.isEmpty && (a.vararg.isNone && (a.kwonlyargs.isEmpty && (a.kwarg.isNone && decide ((a.args.map (·.arg)).Nodup))))
def scopeB (N ps : List Str) (sc : Scope) : Bool := decide (sc.kind = .function) && (!sc.isCoroutine && (!sc.isGenerator && (decide N.Nodup && (decide (N.take ps.length = ps) && (ps.all (fun x => decide (sc.names.lookup x = some .local) || decide (sc.names.lookup x = some .cell)) && sc.names.all fun y => !decide (y.2 = .free))))))
def defB (p : Hint) (st : Stmt) : Bool := plainA (defArgs st) && scopeB p.N ((defArgs st).args.map (·.arg)) (defScope st)
theorem ab {a b : Bool} (h : (a && b) = true) : a = true ∧ b = true := Bool.and_eq_true_iff.mp h
theorem none_of {α : Type} {o : Option α} (h : o.isNone = true) : o = none := Option.isNone_iff_eq_none.mp h
theorem defB_ok {p : Hint} {st : Stmt} (h : defB p st = true) : FnScope p.N ((defArgs st).args.map (·.arg)) (defScope st) ∧ ((defArgs st).posonlyargs = [] ∧ (defArgs st).vararg = none ∧ (defArgs st).kwonlyargs = [] ∧ (defArgs st).kwarg = none) ∧ ((defArgs st).args.map (·.arg)).Nodup := by
  obtain ⟨h1, h2⟩ := ab h
  obtain ⟨a1, h1⟩ := ab h1
  obtain ⟨a2, h1⟩ := ab h1
  obtain ⟨a3, h1⟩ := ab h1
  obtain ⟨a4, a5⟩ := ab h1
  obtain ⟨b1, h2⟩ := ab h2
  obtain ⟨b2, h2⟩ := ab h2
  obtain ⟨b3, h2⟩ := ab h2
  obtain ⟨b4, h2⟩ := ab h2
  obtain ⟨b5, h2⟩ := ab h2
  obtain ⟨b6, b7⟩ := ab h2
  refine ⟨⟨of_decide_eq_true b1, by simpa using b2, by simpa using b3, of_decide_eq_true b4, of_decide_eq_true b5, fun x hx => ?_, fun y hy => ?_⟩, ⟨List.isEmpty_iff.mp a1, none_of a2, List.isEmpty_iff.mp a3, none_of a4⟩, of_decide_eq_true a5⟩
  · rcases Bool.or_eq_true_iff.mp (List.all_eq_true.mp b6 x hx) with e | e
    · exact .inl (of_decide_eq_true e)
    · exact .inr (of_decide_eq_true e)
  · have := List.all_eq_true.mp b7 y hy
    intro e
    rw [e] at this
    simp at this
def dsOf (hs : List Hint) (tops : List Stmt) : List He.DefD := (hs.zip tops).map fun p => dOf p.1.name p.2
def fasOf (hs : List Hint) (cs : List Con) : List He.Fa := hs.map (fun p => He.Fa.glo p.name) ++ (bltNames.filter fun x => !(hs.map (·.name)).contains x && !(cs.map (·.1)).contains x).map He.Fa.free
def globOf (cs : List Con) (x : Str) : Option D := (cs.lookup x).map (·.1)
def okAll (hs : List Hint) (tops : List Stmt) (cs : List Con) : Bool := decide (hs.length = tops.length) && ((hs.zip tops).all fun p => defB p.1 p.2)
section
variable {P : Program} {w : World} {K : Frg} {mg : Str → Option Value} {h : Heap} {hs : List Hint} {tops : List Stmt} {cs : List Con}
theorem lookup_of {x : Str} : ∀ {cs : List Con}, (cs.map (·.1)).contains x = true → ∃ c ∈ cs, c.1 = x ∧ cs.lookup x = some c.2
  | [], h => by simp at h
  | c :: cs, h => by
    cases e : x == c.1 with
    | true => exact ⟨c, List.mem_cons_self, (beq_iff_eq.mp e).symm, by show List.lookup x ((c.1, c.2) :: cs) = _; rw [List.lookup_cons, e]⟩
    | false =>
      have h2 : (cs.map (·.1)).contains x = true := by
        rw [List.map_cons, List.contains_cons, e, Bool.false_or] at h
        exact h
      obtain ⟨d, hd, e2, e3⟩ := lookup_of h2
      exact ⟨d, List.mem_cons_of_mem _ hd, e2, by show List.lookup x ((c.1, c.2) :: cs) = _; rw [List.lookup_cons, e]; exact e3⟩
theorem mod_ok (X : K.In h) (G : h.Ns mainGlobals mg) (S : SaysW (fasOf hs cs) (dsOf hs tops) cs w K) : ModO P w K mg (hs.map (·.name)) (cs.map (·.1)) (globOf cs) where
  free := fun x hx h1 h2 => He.free_ok X G (S.d.facts (List.mem_append_right _ (List.mem_map.mpr ⟨x, List.mem_filter.mpr ⟨hx, by rw [h1, h2]; rfl⟩, rfl⟩)))
  glo := fun x hx => by
    obtain ⟨c, hc, rfl, e⟩ := lookup_of hx
    obtain ⟨u, v, h1, h2, h3⟩ := con_ok (P := P) X G S hc
    exact ⟨u, v, c.2.1, h1, h2, by unfold globOf; rw [e]; rfl, h3⟩
theorem defs_ok (X : K.In h) (G : h.Ns mainGlobals mg) (S : SaysW (fasOf hs cs) (dsOf hs tops) cs w K) (ok : okAll hs tops cs = true) : ∀ p ∈ hs.zip tops, ∃ fa fd, DefO K mg hs (cs.map (·.1)) p.1 p.2 fa fd := fun p hp => by
  obtain ⟨_, h2⟩ := ab ok
  obtain ⟨a, b, c⟩ := defB_ok (List.all_eq_true.mp h2 p hp)
  exact def_ok X G S (List.mem_map.mpr ⟨p, hp, rfl⟩) (List.mem_append_left _ (List.mem_map.mpr ⟨p.1, (List.of_mem_zip (a := p.1) (b := p.2) hp).1, rfl⟩)) a b c
end
end EV

set_option Elab.async false
set_option linter.all false
set_option maxRecDepth 100000
set_option maxHeartbeats 2000000
/-! EV45: a law walked, given its answer in plain Lean (own work). -/
namespace EV
open PySem PySem.Spec PyProof.Rows L2
theorem binds_one {fd : FuncData} {x : Str} (h : PlainFd fd [x]) (s : Shared) (u : Value) : BindsTo s fd ⟨[u], []⟩ [(x, u)] := by
  exact BindsTo.of_eq (bind_gen (us := [u]) (ks := []) (ws := []) (zs := [u]) h (by simp) (by simp) (by simp) (by simp [List.lookup]))
theorem law_walk {l : PySem.W.OpenLaw} {n k N wf : Nat} {q : Program} {loose : List Str} {XP : (Str → Option Value) → Heap → Prop} {d : DefRec} {x lw : Str} {hs : List Hint} {tops : List Stmt} {cs : List Con} {fn : Fn}
    (hn : l.most = some n) (hn2 : n ≤ sizeLine) (hdf : d.params.defaults = []) (hr : Room k callerA) (ok : okAll hs tops cs = true) (hd : d.name = lw)
    (hf : (prgOf hs (cs.map (·.1)) tops (globOf cs) wf).fns.lookup lw = some fn) (hp : fn.ps = [x])
    (A : ∀ ns : List Int, ns.length ≤ n → ∃ outs, run (prgOf hs (cs.map (·.1)) tops (globOf cs) wf) k lw [] [.val (.list (ns.map PyData.int))] = some (.val (.bool true), outs)) :
    PySem.W.WalkO q loose XP (hookW N (fasOf hs cs) (dsOf hs tops) cs).says l.row.toRowW d [] (fun f vs => PySem.call f vs) :=
  walk_G hn hn2 hdf hr fun w mg fa h Y G hmg => by
    obtain ⟨K, X, S⟩ := Y
    obtain ⟨fa2, fd, m, _, pf, _, F⟩ := prog_ok (P := l.prog) (wf := wf) (defs_ok X G S ok) (of_decide_eq_true (ab ok).1) (mod_ok (P := l.prog) X G S) k lw fn hf
    have e : fa2 = fa := by
      rw [hd, m] at hmg
      cases hmg
      rfl
    subst e
    rw [hp] at pf F
    exact ⟨K, fd, _, X, fun s u => binds_one pf s u, fun H a ns hl hL => by
      obtain ⟨outs, e⟩ := A ns hl
      exact law_sp e hL, fun base _ _ => F base⟩
end EV

set_option Elab.async false
set_option linter.all false
set_option maxRecDepth 100000
set_option maxHeartbeats 2000000
/-! PL1: what an evaluation leads to, told backwards (own work). -/
namespace EV
open PySem PySem.Spec PyProof.Rows L2

/-- a mark that holds on to x: simp leaves x alone -/
class Fx {α : Type} (x : α) : Type where
instance {α : Type} {x : α} : Fx x := ⟨⟩
/-- o answers, and Q holds of the answer -/
def OW {α : Type} (o : Option α) (Q : α → Prop) [Fx Q] : Prop := ∃ a, o = some a ∧ Q a
theorem OW_some {α : Type} {a : α} {Q : α → Prop} : OW (some a) Q ↔ Q a := ⟨fun ⟨b, h, q⟩ => by cases h; exact q, fun q => ⟨a, rfl, q⟩⟩
theorem OW_none {α : Type} {Q : α → Prop} : OW (none : Option α) Q ↔ False := ⟨fun ⟨_, h, _⟩ => (nomatch h), fun h => False.elim h⟩
theorem OW_map {α β : Type} {f : α → β} {o : Option α} {Q : β → Prop} : OW (o.map f) Q ↔ OW o fun a => Q (f a) := by
  cases o <;> simp [OW]
theorem OW_bind {α β : Type} {f : α → Option β} {o : Option α} {Q : β → Prop} : OW (o.bind f) Q ↔ OW o fun a => OW (f a) Q := by
  cases o <;> simp [OW]
theorem OW_ite {α : Type} {c : Prop} [Decidable c] {a : Option α} {Q : α → Prop} : OW (if c then a else none) Q ↔ c ∧ OW a Q := by
  by_cases h : c <;> simp [OW, h]
theorem OW_guard {α : Type} {c : Bool} {a : Option α} {Q : α → Prop} : OW (if c = true then none else a) Q ↔ c = false ∧ OW a Q := by
  cases c <;> simp [OW]
theorem OW_both {α : Type} {c : Prop} [Decidable c] {a b : Option α} {Q : α → Prop} : OW (if c then a else b) Q ↔ (c → OW a Q) ∧ (¬ c → OW b Q) := by
  by_cases h : c <;> simp [h]
theorem OW_iff {α : Type} {o : Option α} {Q R : α → Prop} (h : ∀ a, Q a ↔ R a) : OW o Q ↔ OW o R := by
  rw [show Q = R from funext fun a => propext (h a)]
theorem OW.mono {α : Type} {o : Option α} {Q R : α → Prop} (h : OW o Q) (g : ∀ a, Q a → R a) : OW o R := by
  obtain ⟨a, e, q⟩ := h; exact ⟨a, e, g a q⟩

def W (C : Cfg) (e : CE) (env : Ev) (Q : RV → Ev → Prop) [Fx (C, e, Q)] : Prop := OW (ev C e env) fun p => Q p.1 p.2
def WL (C : Cfg) (es : CL) (env : Ev) (Q : List RV → Ev → Prop) [Fx (C, es, Q)] : Prop := OW (evL C es env) fun p => Q p.1 p.2
def WA (C : Cfg) (es : CL) (env : Ev) (Q : List Ag → Ev → Prop) [Fx (C, es, Q)] : Prop := OW (evA C es env) fun p => Q p.1 p.2
def WP (C : Cfg) (ps : CP) (env : Ev) (Q : List (Key × O) → Ev → Prop) [Fx (C, ps, Q)] : Prop := OW (evP C ps env) fun p => Q p.1 p.2
def WO (C : Cfg) (o : CO) (env : Ev) (Q : Option Int → Ev → Prop) [Fx (C, o, Q)] : Prop := OW (evO C o env) fun p => Q p.1 p.2
def WI (C : Cfg) (i : CI) (env : Ev) (Q : List D → Ev → Prop) [Fx (C, i, Q)] : Prop := OW (evI C i env) fun p => Q p.1 p.2
def WS (C : Cfg) (s : CS) (env : Ev) (Q : Fl → Ev → Prop) [Fx (C, s, Q)] : Prop := OW (evS C s env) fun p => Q p.1 p.2
def WB (C : Cfg) (b : CB) (env : Ev) (Q : Fl → Ev → Prop) [Fx (C, Q)] : Prop := OW (evB C b env) fun p => Q p.1 p.2
def CW (C : Cfg) (f : Str) (ks : List Str) (ss : List Sl) (Q : RV → List Sl → Prop) [Fx (C, f, ks, Q)] : Prop := OW (C.call f ks ss) fun p => Q p.1 p.2
/-- one turn of a for -/
def forF (C : Cfg) (t : CT) (b : CB) (x : D) (e : Ev) : Option (Fl × Ev) := (setT t x e).bind fun e2 => evB C b e2
/-- one turn of a comprehension -/
def lcF (C : Cfg) (t : CT) (cond elt : CE) (vs : List Nat) (x : D) (e : Ev) : Option (Option D × Ev) :=
  (setT t x (wipeE e vs)).bind fun ea => (ev C cond ea).bind fun p => (truthD p.1.view).bind fun b => if b then (ev C elt p.2).bind fun r => r.1.keep.map fun d => (some d, r.2) else some (none, p.2)
def FoW (f : D → Ev → Option (Fl × Ev)) (xs : List D) (e : Ev) (Q : Fl → Ev → Prop) [Fx (f, Q)] : Prop := OW (foL f xs e) fun p => Q p.1 p.2
def LcW (f : D → Ev → Option (Option D × Ev)) (xs : List D) (e : Ev) (Q : List D → Ev → Prop) [Fx (f, Q)] : Prop := OW (lcL f xs e) fun p => Q p.1 p.2
def WhW (C : Cfg) (c : CE) (b : CB) (n : Nat) (e : Ev) (Q : Fl → Ev → Prop) [Fx (C, c, b, Q)] : Prop := OW (whL (evT C c) (evB C b) n e) fun p => Q p.1 p.2

section
variable {C : Cfg} {env : Ev}
/-- what stands in a slot -/
def SlotV (o : Option (Option Sl)) (Q : Sl → Prop) [Fx Q] : Prop := match o with
  | some (some s) => Q s
  | _ => False
theorem SlotV_some {s : Sl} {Q : Sl → Prop} : SlotV (some (some s)) Q ↔ Q s := Iff.rfl
def Sl.look : Sl → RV
  | .val d => .val d
  | .own o => .brw o
theorem look_val {d : D} : Sl.look (.val d) = .val d := rfl
theorem look_own {o : O} : Sl.look (.own o) = .brw o := rfl
/-- a value moved out of a slot -/
def MvV (env : Ev) (i : Nat) (s : Sl) (Q : RV → Ev → Prop) [Fx (env, i, Q)] : Prop := match s with
  | .val d => Q (.val d) env
  | .own o => Q (.val (fz o)) (env.set i (some (.val (fz o))))
theorem MvV_val {i : Nat} {d : D} {Q : RV → Ev → Prop} : MvV env i (.val d) Q ↔ Q (.val d) env := Iff.rfl
theorem MvV_own {i : Nat} {o : O} {Q : RV → Ev → Prop} : MvV env i (.own o) Q ↔ Q (.val (fz o)) (env.set i (some (.val (fz o)))) := Iff.rfl


theorem W_var {i : Nat} {Q : RV → Ev → Prop} : W C (.var i) env Q ↔ SlotV env[i]? fun s => Q s.look env := by
  unfold W
  rw [ev]
  cases env[i]? with
  | none => exact OW_none
  | some s =>
    cases s with
    | none => exact OW_none
    | some s => cases s <;> exact OW_some
theorem W_mv {i : Nat} {Q : RV → Ev → Prop} : W C (.mv i) env Q ↔ SlotV env[i]? fun s => MvV env i s Q := by
  unfold W
  rw [ev]
  cases env[i]? with
  | none => exact OW_none
  | some s =>
    cases s with
    | none => exact OW_none
    | some s => cases s <;> exact OW_some
theorem W_con {c : Cn} {Q : RV → Ev → Prop} : W C (.con c) env Q ↔ Q (.val c.d) env := by
  unfold W; rw [ev]; exact OW_some
theorem W_glo {x : Str} {Q : RV → Ev → Prop} : W C (.glo x) env Q ↔ OW (C.glob x) fun d => Q (.val d) env := by
  unfold W; rw [ev]; exact OW_map
theorem OW_case {α β : Type} {o : Option α} {f : α → Option β} {Q : β → Prop} : OW (match o with
    | none => none
    | some p => f p) Q ↔ OW o fun p => OW (f p) Q := by
  cases o <;> simp [OW]
theorem W_bin {op : BOp} {a b : CE} {Q : RV → Ev → Prop} : W C (.bin op a b) env Q ↔ W C a env fun ra e1 => W C b e1 fun rb e2 => (ra.isBrw && !pureE b) = false ∧ OW ra.parts fun x => OW rb.parts fun y => OW (binR op x y) fun r => Q r e2 := by
  unfold W
  rw [ev]
  cases h : ev C a env with
  | none => simp [OW]
  | some p =>
    simp only [OW_some]
    cases g : ev C b p.2 with
    | none => simp [OW]
    | some q =>
      simp only [OW_some, OW_guard]
      refine and_congr Iff.rfl ?_
      cases p.1.parts with
      | none => simp [OW]
      | some x =>
        cases q.1.parts with
        | none => simp [OW]
        | some y => simp only [OW_some, OW_map]
theorem W_neg {a : CE} {Q : RV → Ev → Prop} : W C (.neg a) env Q ↔ W C a env fun r e1 => ∃ i, r = .val (.int i) ∧ Q (.val (.int (-i))) e1 := by
  unfold W
  rw [ev]
  split
  · rename_i i e1 h
    simp [h, OW]
  · rename_i h
    constructor
    · intro h; simp [OW] at h
    · rintro ⟨⟨r, e1⟩, h1, i, h2, _⟩
      simp only at h2
      subst h2
      exact (h _ _ h1).elim
theorem W_not {a : CE} {Q : RV → Ev → Prop} : W C (.not a) env Q ↔ W C a env fun r e1 => OW (truthD r.view) fun b => Q (.val (.bool (!b))) e1 := by
  unfold W
  rw [ev]
  cases h : ev C a env with
  | none => simp [OW]
  | some p => simp only [OW_some, OW_map]
theorem W_cmp {op : COp} {a b : CE} {Q : RV → Ev → Prop} : W C (.cmp op a b) env Q ↔ W C a env fun ra e1 => W C b e1 fun rb e2 => (ra.isBrw && !pureE b) = false ∧ OW (cmpR op ra.view rb.view) fun r => Q (.val (.bool r)) e2 := by
  unfold W
  rw [ev]
  cases h : ev C a env with
  | none => simp [OW]
  | some p =>
    simp only [OW_some]
    cases g : ev C b p.2 with
    | none => simp [OW]
    | some q => simp only [OW_some, OW_guard, OW_map]
/-- on one of two ways -/
def Br (b : Bool) (A B : Prop) : Prop := (b = true → A) ∧ (b = false → B)
theorem Br_true {A B : Prop} : Br true A B ↔ A := by simp [Br]
theorem Br_false {A B : Prop} : Br false A B ↔ B := by simp [Br]
theorem Br_dec {c : Prop} [Decidable c] {A B : Prop} : Br (decide c) A B ↔ (c → A) ∧ (¬ c → B) := by simp [Br]
theorem Br_not {b : Bool} {A B : Prop} : Br (!b) A B ↔ Br b B A := by cases b <;> simp [Br]
theorem Br_split {b : Bool} {A B : Prop} (h1 : b = true → A) (h2 : b = false → B) : Br b A B := ⟨h1, h2⟩
theorem W_chn {op op' : COp} {a b c : CE} {Q : RV → Ev → Prop} : W C (.chn op op' a b c) env Q ↔ W C a env fun ra e1 => W C b e1 fun rb e2 => (ra.isBrw || rb.isBrw) = false ∧ OW (cmpR op ra.view rb.view) fun r =>
    Br r (W C c e2 fun rc e3 => OW (cmpR op' rb.view rc.view) fun r' => Q (.val (.bool r')) e3) (Q (.val (.bool false)) e2) := by
  unfold W
  rw [ev]
  cases h : ev C a env with
  | none => simp [OW]
  | some p =>
    simp only [OW_some]
    cases g : ev C b p.2 with
    | none => simp [OW]
    | some q =>
      simp only [OW_some, OW_guard]
      refine and_congr Iff.rfl ?_
      cases z : cmpR op p.1.view q.1.view with
      | none => simp [OW]
      | some r =>
        cases r with
        | false => simp [OW, Br]
        | true =>
          simp only [OW_some, Br_true]
          cases y : ev C c q.2 with
          | none => simp [OW]
          | some r => simp only [OW_some, OW_map]
/-- or's first value, and's first value -/
def OrV (r : RV) (Q : RV → Prop) (B : Prop) [Fx (Q, B)] : Prop := OW (truthD r.view) fun t => Br t (Q r) B
def AndV (r : RV) (Q : RV → Prop) (B : Prop) [Fx (Q, B)] : Prop := OW (truthD r.view) fun t => Br t B (Q r)
theorem OrV_bool {b : Bool} {Q : RV → Prop} {B : Prop} : OrV (.val (.bool b)) Q B ↔ Br b (Q (.val (.bool true))) B := by
  cases b <;> simp [OrV, OW, Br, truthD, RV.view]
theorem AndV_bool {b : Bool} {Q : RV → Prop} {B : Prop} : AndV (.val (.bool b)) Q B ↔ Br b B (Q (.val (.bool false))) := by
  cases b <;> simp [AndV, OW, Br, truthD, RV.view]
theorem W_and {a b : CE} {Q : RV → Ev → Prop} : W C (.and a b) env Q ↔ W C a env fun r e1 => AndV r (fun r => Q r e1) (W C b e1 Q) := by
  unfold W AndV
  rw [ev]
  cases h : ev C a env with
  | none => simp [OW]
  | some p =>
    simp only [OW_some]
    cases truthD p.1.view with
    | none => simp [OW]
    | some t => cases t <;> simp [OW, Br]
theorem W_or {a b : CE} {Q : RV → Ev → Prop} : W C (.or a b) env Q ↔ W C a env fun r e1 => OrV r (fun r => Q r e1) (W C b e1 Q) := by
  unfold W OrV
  rw [ev]
  cases h : ev C a env with
  | none => simp [OW]
  | some p =>
    simp only [OW_some]
    cases truthD p.1.view with
    | none => simp [OW]
    | some t => cases t <;> simp [OW, Br]
theorem W_ite {c a b : CE} {Q : RV → Ev → Prop} : W C (.ite c a b) env Q ↔ W C c env fun r e1 => OW (truthD r.view) fun t => Br t (W C a e1 Q) (W C b e1 Q) := by
  unfold W
  rw [ev]
  cases h : ev C c env with
  | none => simp [OW]
  | some p =>
    simp only [OW_some]
    cases truthD p.1.view with
    | none => simp [OW]
    | some t => cases t <;> simp [OW, Br]
theorem W_tup {es : CL} {Q : RV → Ev → Prop} : W C (.tup es) env Q ↔ WL C es env fun rs e1 => OW (keeps rs) fun ds => ds.length ≤ sizeLine ∧ Q (.val (.tuple ds)) e1 := by
  unfold W WL
  rw [ev]
  cases h : evL C es env with
  | none => simp [OW]
  | some p => (repeat' first | exact Iff.rfl | refine OW_iff fun _ => ?_ | refine and_congr Iff.rfl ?_ | simp only [OW_some, OW_ite, OW_guard, OW_bind, OW_map])
theorem W_lst {es : CL} {Q : RV → Ev → Prop} : W C (.lst es) env Q ↔ WL C es env fun rs e1 => OW (keeps rs) fun ds => ds.length ≤ sizeLine ∧ Q (.own (ofL ds)) e1 := by
  unfold W WL
  rw [ev]
  cases h : evL C es env with
  | none => simp [OW]
  | some p => (repeat' first | exact Iff.rfl | refine OW_iff fun _ => ?_ | refine and_congr Iff.rfl ?_ | simp only [OW_some, OW_ite, OW_guard, OW_bind, OW_map])
def dctO (kos : List (Key × O)) : O := .dct (kos.foldl (fun acc p => putO acc p.1 p.2) [])
theorem W_dct {ps : CP} {Q : RV → Ev → Prop} : W C (.dct ps) env Q ↔ WP C ps env fun kos e1 => kos.length ≤ 15 ∧ Q (.own (dctO kos)) e1 := by
  unfold W WP
  rw [ev]
  cases h : evP C ps env with
  | none => simp [OW]
  | some p =>
    unfold dctO
    simp -dsimp only [OW_some, OW_ite]
theorem W_rng {t : Bool} {es : CL} {Q : RV → Ev → Prop} : W C (.rng t es) env Q ↔ WL C es env fun rs e1 => OW (keeps rs) fun ds => OW (iterB .range ds) fun xs => Q (if t then .val (.tuple xs) else .own (ofL xs)) e1 := by
  unfold W WL
  rw [ev]
  cases h : evL C es env with
  | none => simp [OW]
  | some p => (repeat' first | exact Iff.rfl | refine OW_iff fun _ => ?_ | refine and_congr Iff.rfl ?_ | simp only [OW_some, OW_ite, OW_guard, OW_bind, OW_map])
theorem W_idx {a k : CE} {Q : RV → Ev → Prop} : W C (.idx a k) env Q ↔ W C a env fun ra e1 => W C k e1 fun rk e2 => (ra.isBrw && !pureE k) = false ∧ ∃ d, rk = .val d ∧ OW (idxR ra d) fun r => Q r e2 := by
  unfold W
  rw [ev]
  cases h : ev C a env with
  | none => simp [OW]
  | some p =>
    simp only [OW_some]
    cases g : ev C k p.2 with
    | none => simp [OW]
    | some q =>
      simp only [OW_some, OW_guard]
      refine and_congr Iff.rfl ?_
      obtain ⟨rk, e2⟩ := q
      cases rk with
      | val d => simp only [OW_map, RV.val.injEq, exists_eq_left']
      | own o => simp [OW]
      | brw o => simp [OW]
theorem W_slc {a : CE} {lo hi : CO} {Q : RV → Ev → Prop} : W C (.slc a lo hi) env Q ↔ W C a env fun ra e1 => WO C lo e1 fun l e2 => WO C hi e2 fun h e3 => (ra.isBrw && !(pureO lo && pureO hi)) = false ∧ OW ra.parts fun x => OW (slcR x l h) fun r => Q r e3 := by
  unfold W WO
  rw [ev]
  cases h : ev C a env with
  | none => simp [OW]
  | some p =>
    simp only [OW_some]
    cases g : evO C lo p.2 with
    | none => simp [OW]
    | some q =>
      simp only [OW_some]
      cases g2 : evO C hi q.2 with
      | none => simp [OW]
      | some q2 => simp only [OW_some, OW_guard, OW_map, OW_bind]
theorem W_rev {a : CE} {Q : RV → Ev → Prop} : W C (.rev a) env Q ↔ W C a env fun ra e1 => OW ra.parts fun x => OW (revR x) fun r => Q r e1 := by
  unfold W
  rw [ev]
  cases h : ev C a env with
  | none => simp [OW]
  | some p => simp only [OW_some, OW_map, OW_bind]
theorem W_call {f : Str} {es : CL} {kws : List Str} {Q : RV → Ev → Prop} : W C (.call f es kws) env Q ↔ WA C es env fun as e1 => OW (lent e1 as) fun p => CW C f kws p.1 fun r outs => r.isBrw = false ∧ OW (backL p.2 as outs) fun e3 => Q r e3 := by
  unfold W WA CW
  rw [ev]
  cases h : evA C es env with
  | none => simp [OW]
  | some p =>
    simp only [OW_some]
    cases g : lent p.2 p.1 with
    | none => simp [OW]
    | some q =>
      simp only [OW_some]
      cases g2 : C.call f kws q.1 with
      | none => simp [OW]
      | some z => simp only [OW_some, OW_guard, OW_map]
theorem W_blt {b : Blt} {es : CL} {Q : RV → Ev → Prop} : W C (.blt b es) env Q ↔ WL C es env fun rs e1 => (rs.any RV.isBrw && !pureL es) = false ∧ OW (if b.hands then partsL rs else some (rs.map RV.view)) fun ds => OW (bltR b ds) fun r => Q r e1 := by
  unfold W WL
  rw [ev]
  cases h : evL C es env with
  | none => simp [OW]
  | some p => (repeat' first | exact Iff.rfl | refine OW_iff fun _ => ?_ | refine and_congr Iff.rfl ?_ | simp only [OW_some, OW_ite, OW_guard, OW_bind, OW_map])
theorem W_mth {m : Mth} {o : CE} {es : CL} {Q : RV → Ev → Prop} : W C (.mth m o es) env Q ↔ W C o env fun ro e1 => WL C es e1 fun rs e2 => (ro.isBrw && !pureL es) = false ∧ OW ro.parts fun x => OW (keeps rs) fun ds => OW (mthR m x ds) fun r => Q r e2 := by
  unfold W WL
  rw [ev]
  cases h : ev C o env with
  | none => simp [OW]
  | some p =>
    simp only [OW_some]
    cases g : evL C es p.2 with
    | none => simp [OW]
    | some q => (repeat' first | exact Iff.rfl | refine OW_iff fun _ => ?_ | refine and_congr Iff.rfl ?_ | simp only [OW_some, OW_ite, OW_guard, OW_bind, OW_map])
/-- the object in a slot -/
def OwnV (o : Option (Option Sl)) (Q : O → Prop) [Fx Q] : Prop := match o with
  | some (some (.own o)) => Q o
  | _ => False
theorem OwnV_some {o : O} {Q : O → Prop} : OwnV (some (some (.own o))) Q ↔ Q o := Iff.rfl
theorem OwnV_iff {α : Type} {s : Option (Option Sl)} {f : O → Option α} {Q : α → Prop} : OW (match s with
    | some (some (.own o)) => f o
    | _ => none) Q ↔ OwnV s fun o => OW (f o) Q := by
  match s with
  | none => exact OW_none
  | some none => exact OW_none
  | some (some (.val _)) => exact OW_none
  | some (some (.own _)) => exact Iff.rfl
theorem OwnV_same {s : Option (Option Sl)} {Q R : O → Prop} (h : ∀ a, Q a ↔ R a) : OwnV s Q ↔ OwnV s R := by
  rw [show Q = R from funext fun a => propext (h a)]
theorem W_mut {m : Mth} {i : Nat} {path es : CL} {Q : RV → Ev → Prop} : W C (.mut m i path es) env Q ↔ WL C path env fun ps e1 => OW (keeps ps) fun ks =>
    (pureL path && (ps.isEmpty || pureL es) && isL (placeAt e1 i ks)) = true ∧ WL C es e1 fun rs e2 => brwOk rs (pureL es) = true ∧ OwnV e2[i]? fun o => OW (atP o ks) fun o1 => OW (mutR m o1 rs) fun p => OW (putP o ks p.2) fun o2 => Q p.1 (e2.set i (some (.own o2))) := by
  unfold W WL
  rw [ev]
  cases h : evL C path env with
  | none => simp [OW]
  | some p =>
    simp only [OW_some, OW_bind]
    cases g : keeps p.1 with
    | none => simp [OW]
    | some ks =>
      simp only [OW_some, OW_ite]
      refine and_congr Iff.rfl ?_
      cases g2 : evL C es p.2 with
      | none => simp [OW]
      | some q =>
        simp only [OW_some, OW_ite]
        refine and_congr Iff.rfl ?_
        refine Iff.trans (OwnV_iff (f := fun o => (atP o ks).bind fun o1 => (mutR m o1 q.1).bind fun p => (putP o ks p.2).map fun o2 => (p.1, q.2.set i (some (.own o2))))) (OwnV_same fun o => ?_)
        (repeat' first | exact Iff.rfl | refine OW_iff fun _ => ?_ | refine and_congr Iff.rfl ?_ | simp only [OW_some, OW_ite, OW_guard, OW_bind, OW_map])
theorem W_isi {a : CE} {ts : List Ty} {Q : RV → Ev → Prop} : W C (.isi a ts) env Q ↔ W C a env fun r e1 => OW (isiAny r.view ts) fun b => Q (.val (.bool b)) e1 := by
  unfold W
  rw [ev]
  cases h : ev C a env with
  | none => simp [OW]
  | some p => simp only [OW_some, OW_map]
theorem lcF_eq {t : CT} {cond elt : CE} {vs : List Nat} : (fun x e => match setT t x (wipeE e vs) with
        | none => none
        | some ea => match ev C cond ea with
          | none => none
          | some (rc, eb) => match truthD rc.view with
            | none => none
            | some false => some (none, eb)
            | some true => match ev C elt eb with
              | none => none
              | some (r, ec) => r.keep.map fun d => (some d, ec)) = lcF C t cond elt vs := by
  funext x e
  unfold lcF
  cases setT t x (wipeE e vs) with
  | none => rfl
  | some ea =>
    show (match ev C cond ea with
          | none => none
          | some (rc, eb) => _) = (ev C cond ea).bind _
    cases ev C cond ea with
    | none => rfl
    | some p =>
      show (match truthD p.1.view with
            | none => none
            | some false => some (none, p.2)
            | some true => _) = (truthD p.1.view).bind _
      cases truthD p.1.view with
      | none => rfl
      | some b =>
        cases b with
        | false => rfl
        | true =>
          show (match ev C elt p.2 with
              | none => none
              | some (r, ec) => r.keep.map fun d => (some d, ec)) = (ev C elt p.2).bind _
          cases ev C elt p.2 with
          | none => rfl
          | some q => rfl
theorem W_lc {t : CT} {it : CI} {cond elt : CE} {vs : List Nat} {Q : RV → Ev → Prop} : W C (.lc t it cond elt vs) env Q ↔ WI C it env fun xs e1 => plainAt e1 vs = true ∧ LcW (lcF C t cond elt vs) xs e1 fun ds e2 => ds.length ≤ sizeLine ∧ Q (.own (ofL ds)) (backE e2 e1 vs) := by
  unfold W WI LcW
  rw [ev]
  cases h : evI C it env with
  | none => simp [OW]
  | some p =>
    simp only [OW_some, OW_ite, OW_bind]
    refine and_congr Iff.rfl (Iff.trans (OW_iff (R := fun a => a.1.length ≤ sizeLine ∧ Q (.own (ofL a.1)) (backE a.2 p.2 vs)) fun a => by simp only [OW_ite, OW_some]) ?_)
    exact (Iff.of_eq (congrArg (fun f => OW (lcL f p.1 p.2) fun a => a.1.length ≤ sizeLine ∧ Q (.own (ofL a.1)) (backE a.2 p.2 vs)) lcF_eq))
theorem WL_nil {Q : List RV → Ev → Prop} : WL C .nil env Q ↔ Q [] env := by
  unfold WL; rw [evL]; exact OW_some
theorem WL_cons {e : CE} {es : CL} {Q : List RV → Ev → Prop} : WL C (.cons e es) env Q ↔ W C e env fun r e1 => WL C es e1 fun rs e2 => Q (r :: rs) e2 := by
  unfold WL W
  rw [evL]
  cases h : ev C e env with
  | none => simp [OW]
  | some p => simp only [OW_some, OW_map]
theorem WA_nil {Q : List Ag → Ev → Prop} : WA C .nil env Q ↔ Q [] env := by
  unfold WA; rw [evA]; exact OW_some
theorem WA_lend {i : Nat} {es : CL} {Q : List Ag → Ev → Prop} : WA C (.cons (.lend i) es) env Q ↔ SlotV env[i]? fun _ => WA C es env fun rs e2 => Q (.lend i :: rs) e2 := by
  unfold WA
  rw [evA]
  split
  · rename_i h
    simp only [h, SlotV, OW_map]
  · rename_i h
    unfold SlotV
    split
    · rename_i s h2; exact (h s h2).elim
    · exact OW_none
def CE.isLend : CE → Bool
  | .lend _ => true
  | _ => false
theorem WA_cons {e : CE} {es : CL} {Q : List Ag → Ev → Prop} (hl : e.isLend = false) : WA C (.cons e es) env Q ↔ W C e env fun r e1 => OW r.keep fun d => WA C es e1 fun rs e2 => Q (.val d :: rs) e2 := by
  unfold WA W
  rw [evA]
  · cases h : ev C e env with
    | none => simp [OW]
    | some p => (repeat' first | exact Iff.rfl | refine OW_iff fun _ => ?_ | refine and_congr Iff.rfl ?_ | simp only [OW_some, OW_ite, OW_guard, OW_bind, OW_map])
  · intro i h
    subst h
    cases hl
theorem WP_nil {Q : List (Key × O) → Ev → Prop} : WP C .nil env Q ↔ Q [] env := by
  unfold WP; rw [evP]; exact OW_some
theorem WP_cons {k v : CE} {ps : CP} {Q : List (Key × O) → Ev → Prop} : WP C (.cons k v ps) env Q ↔ W C k env fun rk e1 => W C v e1 fun rv e2 => OW rk.keep fun kd => OW (dK kd) fun q => OW rv.toO fun o => WP C ps e2 fun kos e3 => Q ((q, o) :: kos) e3 := by
  unfold WP W
  rw [evP]
  cases h : ev C k env with
  | none => simp [OW]
  | some p =>
    simp only [OW_some]
    cases g : ev C v p.2 with
    | none => simp [OW]
    | some q => (repeat' first | exact Iff.rfl | refine OW_iff fun _ => ?_ | refine and_congr Iff.rfl ?_ | simp only [OW_some, OW_ite, OW_guard, OW_bind, OW_map])
theorem WO_non {Q : Option Int → Ev → Prop} : WO C .non env Q ↔ Q none env := by
  unfold WO; rw [evO]; exact OW_some
theorem WO_som {e : CE} {Q : Option Int → Ev → Prop} : WO C (.som e) env Q ↔ W C e env fun r e1 => ∃ i, r = .val (.int i) ∧ Q (some i) e1 := by
  unfold WO W
  rw [evO]
  split
  · rename_i i e1 h
    simp [h, OW]
  · rename_i h
    constructor
    · intro h; simp [OW] at h
    · rintro ⟨⟨r, e1⟩, h1, i, h2, _⟩
      simp only at h2
      subst h2
      exact (h _ _ h1).elim
theorem WI_blt {b : Blt} {es : CL} {Q : List D → Ev → Prop} : WI C (.blt b es) env Q ↔ WL C es env fun rs e1 => OW (keeps rs) fun ds => OW (iterB b ds) fun xs => Q xs e1 := by
  unfold WI WL
  rw [evI]
  cases h : evL C es env with
  | none => simp [OW]
  | some p => (repeat' first | exact Iff.rfl | refine OW_iff fun _ => ?_ | refine and_congr Iff.rfl ?_ | simp only [OW_some, OW_ite, OW_guard, OW_bind, OW_map])
theorem WI_of {e : CE} {Q : List D → Ev → Prop} : WI C (.of e) env Q ↔ W C e env fun r e1 => OW r.keep fun d => OW (itemsOf d) fun xs => Q xs e1 := by
  unfold WI W
  rw [evI]
  cases h : ev C e env with
  | none => simp [OW]
  | some p => (repeat' first | exact Iff.rfl | refine OW_iff fun _ => ?_ | refine and_congr Iff.rfl ?_ | simp only [OW_some, OW_ite, OW_guard, OW_bind, OW_map])

/-! statements -/
theorem WB_nil {Q : Fl → Ev → Prop} : WB C .nil env Q ↔ Q .next env := by
  unfold WB; rw [evB]; exact OW_some
/-- on with Q where the block goes on -/
def nextQ (P : Ev → Prop) (Q : Fl → Ev → Prop) [Fx (P, Q)] (f : Fl) (e : Ev) : Prop := match f with
  | .next => P e
  | f => Q f e
theorem nextQ_next {P : Ev → Prop} {Q : Fl → Ev → Prop} {e : Ev} : nextQ P Q .next e ↔ P e := Iff.rfl
theorem nextQ_brk {P : Ev → Prop} {Q : Fl → Ev → Prop} {e : Ev} : nextQ P Q .brk e ↔ Q .brk e := Iff.rfl
theorem nextQ_cnt {P : Ev → Prop} {Q : Fl → Ev → Prop} {e : Ev} : nextQ P Q .cnt e ↔ Q .cnt e := Iff.rfl
theorem nextQ_ret {P : Ev → Prop} {Q : Fl → Ev → Prop} {e : Ev} {r : RV} : nextQ P Q (.ret r) e ↔ Q (.ret r) e := Iff.rfl
theorem WB_cons {s : CS} {b : CB} {Q : Fl → Ev → Prop} : WB C (.cons s b) env Q ↔ WS C s env (nextQ (fun e => WB C b e Q) Q) := by
  unfold WB WS
  rw [evB]
  cases h : evS C s env with
  | none => simp [OW]
  | some p =>
    obtain ⟨f, e⟩ := p
    cases f <;> simp [OW, nextQ]
theorem WS_asg {t : CT} {e : CE} {Q : Fl → Ev → Prop} : WS C (.asg t e) env Q ↔ W C e env fun r e1 => OW r.keep fun d => OW (setT t d e1) fun e2 => Q .next e2 := by
  unfold WS W
  rw [evS]
  cases h : ev C e env with
  | none => simp [OW]
  | some p => (repeat' first | exact Iff.rfl | refine OW_iff fun _ => ?_ | refine and_congr Iff.rfl ?_ | simp only [OW_some, OW_ite, OW_guard, OW_bind, OW_map])
/-- stored to a slot of its own -/
def AsO (i : Nat) (r : RV) (e : Ev) (Q : Ev → Prop) [Fx (i, Q)] : Prop := match r with
  | .own o => Q (e.set i (some (.own o)))
  | .val d => Q (e.set i (some (.val d)))
  | _ => False
theorem AsO_own {i : Nat} {o : O} {e : Ev} {Q : Ev → Prop} : AsO i (.own o) e Q ↔ Q (e.set i (some (.own o))) := Iff.rfl
theorem AsO_val {i : Nat} {d : D} {e : Ev} {Q : Ev → Prop} : AsO i (.val d) e Q ↔ Q (e.set i (some (.val d))) := Iff.rfl
theorem WS_asgO {i : Nat} {e : CE} {Q : Fl → Ev → Prop} : WS C (.asgO i e) env Q ↔ W C e env fun r e1 => AsO i r e1 fun e2 => Q .next e2 := by
  unfold WS W
  rw [evS]
  cases h : ev C e env with
  | none => simp [OW]
  | some p =>
    obtain ⟨r, e1⟩ := p
    cases r <;> simp [OW, AsO]
theorem WS_par {own : List (Nat × Bool)} {es : CL} {Q : Fl → Ev → Prop} : WS C (.par own es) env Q ↔ WL C es env fun rs e1 => (brwOk rs (pureL es) && (own.all (fun p => !p.2) || parOk own rs)) = true ∧ OW (parL own rs e1) fun e2 => Q .next e2 := by
  unfold WS WL
  rw [evS]
  cases h : evL C es env with
  | none => simp [OW]
  | some p => simp only [OW_some, OW_ite, OW_map]
theorem WS_put {i : Nat} {path : CL} {k e : CE} {Q : Fl → Ev → Prop} : WS C (.put i path k e) env Q ↔ W C e env fun r e1 => WL C path e1 fun ps e2 => OW (keeps ps) fun ks =>
    (pureL path && (ps.isEmpty || pureE k) && (placeAt e2 i ks).isSome) = true ∧ W C k e2 fun rk e3 => ∃ kd, rk = .val kd ∧ OwnV e3[i]? fun o => OW r.toO fun v => OW (atP o ks) fun o1 => OW (setAt o1 kd v) fun o2 => OW (putP o ks o2) fun o3 => Q .next (e3.set i (some (.own o3))) := by
  unfold WS W WL
  rw [evS]
  cases h : ev C e env with
  | none => simp [OW]
  | some p =>
    simp only [OW_some]
    cases g : evL C path p.2 with
    | none => simp [OW]
    | some q =>
      simp only [OW_some, OW_bind]
      cases g2 : keeps q.1 with
      | none => simp [OW]
      | some ks =>
        simp only [OW_some, OW_ite]
        refine and_congr Iff.rfl ?_
        cases g3 : ev C k q.2 with
        | none => simp [OW]
        | some z =>
          obtain ⟨rk, e3⟩ := z
          cases rk with
          | val kd =>
            simp only [OW_some]
            refine Iff.trans (OwnV_iff (f := fun o => p.1.toO.bind fun v => (atP o ks).bind fun o1 => (setAt o1 kd v).bind fun o2 => (putP o ks o2).map fun o3 => (Fl.next, e3.set i (some (.own o3))))) ?_
            refine Iff.trans (OwnV_same (R := fun o => OW p.1.toO fun v => OW (atP o ks) fun o1 => OW (setAt o1 kd v) fun o2 => OW (putP o ks o2) fun o3 => Q Fl.next (e3.set i (some (Sl.own o3)))) fun o => ?_) ⟨fun h => ⟨kd, rfl, h⟩, fun ⟨_, e, h⟩ => by cases e; exact h⟩
            (repeat' first | exact Iff.rfl | refine OW_iff fun _ => ?_ | refine and_congr Iff.rfl ?_ | simp only [OW_some, OW_ite, OW_guard, OW_bind, OW_map])
          | own o => simp [OW]
          | brw o => simp [OW]
theorem WS_aug {i : Nat} {op : BOp} {e : CE} {Q : Fl → Ev → Prop} (ho : op = .add ∨ op = .sub) : WS C (.aug i op e) env Q ↔ SlotV env[i]? fun s => ∃ x, s = .val (.int x) ∧ W C e env fun r e1 => ∃ y, r = .val (.int y) ∧ Q .next (e1.set i (some (.val (.int (if op = .add then x + y else x - y))))) := by
  unfold WS W
  rw [evS, if_pos ho]
  cases h : env[i]? with
  | none => simp [OW, SlotV]
  | some s =>
    cases s with
    | none => simp [OW, SlotV]
    | some s =>
      cases s with
      | own o => simp [OW, SlotV]
      | val d =>
        cases d with
        | int x =>
          simp only [SlotV, Sl.val.injEq, PyData.int.injEq, exists_eq_left']
          cases g : ev C e env with
          | none => simp [OW]
          | some p =>
            obtain ⟨r, e1⟩ := p
            cases r with
            | own o => simp [OW]
            | brw o => simp [OW]
            | val d2 =>
              cases d2 with
              | int y =>
                rcases ho with rfl | rfl
                · simp [OW, binR]
                · simp [OW, binR]
              | _ => simp [OW]
        | _ => simp [OW, SlotV]
theorem WS_exp {e : CE} {Q : Fl → Ev → Prop} : WS C (.exp e) env Q ↔ W C e env fun _ e1 => Q .next e1 := by
  unfold WS W
  rw [evS]
  exact OW_map
theorem WS_ret {e : CE} {Q : Fl → Ev → Prop} : WS C (.ret e) env Q ↔ W C e env fun r e1 => r.isBrw = false ∧ Q (.ret r) e1 := by
  unfold WS W
  rw [evS]
  cases h : ev C e env with
  | none => simp [OW]
  | some p => simp only [OW_some, OW_guard]
/-- handed out of a slot -/
def RetO (env : Ev) (i : Nat) (s : Sl) (Q : Fl → Ev → Prop) [Fx (env, i, Q)] : Prop := match s with
  | .own o => Q (.ret (.own o)) (env.set i none)
  | .val d => Q (.ret (.val d)) env
theorem RetO_own {i : Nat} {o : O} {Q : Fl → Ev → Prop} : RetO env i (.own o) Q ↔ Q (.ret (.own o)) (env.set i none) := Iff.rfl
theorem RetO_val {i : Nat} {d : D} {Q : Fl → Ev → Prop} : RetO env i (.val d) Q ↔ Q (.ret (.val d)) env := Iff.rfl
theorem WS_retO {i : Nat} {Q : Fl → Ev → Prop} : WS C (.retO i) env Q ↔ SlotV env[i]? fun s => RetO env i s Q := by
  unfold WS
  rw [evS]
  cases h : env[i]? with
  | none => simp [OW, SlotV]
  | some s =>
    cases s with
    | none => simp [OW, SlotV]
    | some s => cases s <;> simp [OW, SlotV, RetO]
theorem WS_ifs {c : CE} {a b : CB} {Q : Fl → Ev → Prop} : WS C (.ifs c a b) env Q ↔ W C c env fun r e1 => OW (truthD r.view) fun t => Br t (WB C a e1 Q) (WB C b e1 Q) := by
  unfold WS W WB
  rw [evS, evT]
  cases h : ev C c env with
  | none => simp [OW]
  | some p =>
    simp only [OW_some]
    cases truthD p.1.view with
    | none => simp [OW]
    | some t => cases t <;> simp [OW, Br]
theorem WS_whl {c : CE} {b : CB} {Q : Fl → Ev → Prop} : WS C (.whl c b) env Q ↔ WhW C c b C.wf env Q := by
  unfold WS WhW
  rw [evS]
theorem forF_eq {t : CT} {b : CB} : (fun x e => match setT t x e with
      | none => none
      | some e2 => evB C b e2) = forF C t b := by
  funext x e
  unfold forF
  cases setT t x e <;> rfl
theorem WS_fo {t : CT} {it : CI} {b : CB} {Q : Fl → Ev → Prop} : WS C (.fo t it b) env Q ↔ WI C it env fun xs e1 => FoW (forF C t b) xs e1 Q := by
  unfold WS WI FoW
  rw [evS]
  cases h : evI C it env with
  | none => simp [OW]
  | some p =>
    simp only [OW_some]
    exact Iff.of_eq (congrArg (fun f => OW (foL f p.1 p.2) fun p => Q p.1 p.2) forF_eq)
theorem WS_brk {Q : Fl → Ev → Prop} : WS C .brk env Q ↔ Q .brk env := by
  unfold WS; rw [evS]; exact OW_some
theorem WS_cnt {Q : Fl → Ev → Prop} : WS C .cnt env Q ↔ Q .cnt env := by
  unfold WS; rw [evS]; exact OW_some
theorem WS_pas {Q : Fl → Ev → Prop} : WS C .pas env Q ↔ Q .next env := by
  unfold WS; rw [evS]; exact OW_some

/-! loops -/
theorem FoW_nil {f : D → Ev → Option (Fl × Ev)} {e : Ev} {Q : Fl → Ev → Prop} : FoW f [] e Q ↔ Q .next e := OW_some
theorem OW_forF {t : CT} {b : CB} {x : D} {Q : Fl × Ev → Prop} : OW (forF C t b x env) Q ↔ OW (setT t x env) fun e2 => WB C b e2 fun f e => Q (f, e) := by
  unfold forF WB
  exact OW_bind
/-- what one turn of a loop leaves: to go on with N, or the end Q -/
def turnQ (N : Ev → Prop) (Q : Fl → Ev → Prop) [Fx (N, Q)] (f : Fl) (e : Ev) : Prop := match f with
  | .next => N e
  | .cnt => N e
  | .brk => Q .next e
  | .ret r => Q (.ret r) e
theorem turnQ_next {N : Ev → Prop} {Q : Fl → Ev → Prop} {e : Ev} : turnQ N Q .next e ↔ N e := Iff.rfl
theorem turnQ_cnt {N : Ev → Prop} {Q : Fl → Ev → Prop} {e : Ev} : turnQ N Q .cnt e ↔ N e := Iff.rfl
theorem turnQ_brk {N : Ev → Prop} {Q : Fl → Ev → Prop} {e : Ev} : turnQ N Q .brk e ↔ Q .next e := Iff.rfl
theorem turnQ_ret {N : Ev → Prop} {Q : Fl → Ev → Prop} {e : Ev} {r : RV} : turnQ N Q (.ret r) e ↔ Q (.ret r) e := Iff.rfl
theorem FoW_cons {t : CT} {b : CB} {x : D} {xs : List D} {Q : Fl → Ev → Prop} : FoW (forF C t b) (x :: xs) env Q ↔ OW (setT t x env) fun e2 => WB C b e2 (turnQ (fun e => FoW (forF C t b) xs e Q) Q) := by
  unfold FoW
  rw [foL]
  constructor
  · intro h
    cases g : forF C t b x env with
    | none => rw [g] at h; simp [OW] at h
    | some p =>
      rw [g] at h
      unfold forF at g
      cases s : setT t x env with
      | none => rw [s] at g; cases g
      | some e2 =>
        rw [s] at g
        refine OW_some.mpr ?_
        have g2 : evB C b e2 = some p := g
        unfold WB
        rw [g2]
        refine OW_some.mpr ?_
        obtain ⟨fl, e⟩ := p
        cases fl with
        | next => exact h
        | cnt => exact h
        | brk => exact (OW_some (Q := fun p : Fl × Ev => Q p.1 p.2)).mp h
        | ret r => exact (OW_some (Q := fun p : Fl × Ev => Q p.1 p.2)).mp h
  · rintro ⟨e2, s, p, g, h⟩
    have : forF C t b x env = some p := by unfold forF; rw [s]; exact g
    rw [this]
    obtain ⟨fl, e⟩ := p
    cases fl with
    | next => exact h
    | cnt => exact h
    | brk => exact (OW_some (Q := fun p : Fl × Ev => Q p.1 p.2)).mpr h
    | ret r => exact (OW_some (Q := fun p : Fl × Ev => Q p.1 p.2)).mpr h
/-- a for by its invariant; I i: ahead of the i-th turn -/
theorem FoW_inv {t : CT} {b : CB} {xs : List D} {e : Ev} {Q : Fl → Ev → Prop} (I : Nat → Ev → Prop) (h0 : I 0 e)
    (hs : ∀ i x e, xs[i]? = some x → I i e → OW (setT t x e) fun e2 => WB C b e2 (turnQ (I (i + 1)) Q)) (hq : ∀ e, I xs.length e → Q .next e) : FoW (forF C t b) xs e Q := by
  induction xs generalizing e I with
  | nil => exact FoW_nil.mpr (hq e h0)
  | cons x xs ih =>
    rw [FoW_cons]
    obtain ⟨e2, s, p, g, z⟩ := hs 0 x e rfl h0
    refine ⟨e2, s, p, g, ?_⟩
    obtain ⟨fl, e3⟩ := p
    have key : I 1 e3 → FoW (forF C t b) xs e3 Q := fun h => ih (fun i => I (i + 1)) h (fun i y e hy hi => hs (i + 1) y e hy hi) hq
    cases fl with
    | next => exact key z
    | cnt => exact key z
    | brk => exact z
    | ret r => exact z
theorem LcW_nil {f : D → Ev → Option (Option D × Ev)} {e : Ev} {Q : List D → Ev → Prop} : LcW f [] e Q ↔ Q [] e := OW_some
/-- one turn of a comprehension -/
def LtW (C : Cfg) (cond elt : CE) (e : Ev) (N : Option D → Ev → Prop) [Fx (C, cond, elt, N)] : Prop := W C cond e fun rc e1 => OW (truthD rc.view) fun t => Br t (W C elt e1 fun r e2 => OW r.keep fun d => N (some d) e2) (N none e1)
theorem LcW_cons {t : CT} {cond elt : CE} {vs : List Nat} {x : D} {xs : List D} {Q : List D → Ev → Prop} : LcW (lcF C t cond elt vs) (x :: xs) env Q ↔ OW (setT t x (wipeE env vs)) fun e2 => LtW C cond elt e2 fun o e => LcW (lcF C t cond elt vs) xs e fun ds e' => Q (o.toList ++ ds) e' := by
  unfold LcW LtW W
  rw [lcL]
  unfold lcF
  cases setT t x (wipeE env vs) with
  | none => simp [OW]
  | some e2 =>
    simp only [OW_some, Option.bind_some]
    cases ev C cond e2 with
    | none => simp [OW]
    | some p =>
      simp only [OW_some, Option.bind_some]
      cases truthD p.1.view with
      | none => simp [OW]
      | some b =>
        cases b with
        | false => simp [OW, Br]
        | true =>
          simp only [OW_some, Option.bind_some, Br_true, if_true]
          cases ev C elt p.2 with
          | none => simp [OW]
          | some q =>
            simp only [OW_some, Option.bind_some]
            cases q.1.keep with
            | none => simp [OW]
            | some d =>
              simp -dsimp only [OW_some, Option.map_some, OW_map]
              exact Iff.rfl
/-- a comprehension by its invariant; I i ds: ahead of the i-th turn, with what is made -/
theorem LcW_inv {t : CT} {cond elt : CE} {vs : List Nat} {xs : List D} {e : Ev} {Q : List D → Ev → Prop} (I : Nat → List D → Ev → Prop) (h0 : I 0 [] e)
    (hs : ∀ i x ds e, xs[i]? = some x → I i ds e → OW (setT t x (wipeE e vs)) fun e2 => LtW C cond elt e2 fun o e' => I (i + 1) (ds ++ o.toList) e') (hq : ∀ ds e, I xs.length ds e → Q ds e) : LcW (lcF C t cond elt vs) xs e Q := by
  induction xs generalizing e I Q with
  | nil => exact LcW_nil.mpr (hq [] e h0)
  | cons x xs ih =>
    rw [LcW_cons]
    refine (hs 0 x [] e rfl h0).mono fun e2 h => ?_
    unfold LtW W at h ⊢
    refine h.mono fun p h => h.mono fun b h => ?_
    have key : ∀ (o : Option D) e', I 1 ([] ++ o.toList) e' → LcW (lcF C t cond elt vs) xs e' fun ds e' => Q (o.toList ++ ds) e' := fun o e' h => by
      refine ih (I := fun i ds e => I (i + 1) (o.toList ++ ds) e) ?_ (fun i y ds e hy hi => ?_) (fun ds e h => hq _ e h)
      · rw [List.append_nil]; exact h
      · have := hs (i + 1) y (o.toList ++ ds) e hy hi
        rw [show (fun (o' : Option D) e' => I (i + 1 + 1) (o.toList ++ ds ++ o'.toList) e') = fun o' e' => I (i + 1 + 1) (o.toList ++ (ds ++ o'.toList)) e' from funext fun o' => by rw [List.append_assoc]] at this
        exact this
    cases b with
    | false => exact Br_false.mpr (key _ _ (Br_false.mp h))
    | true => exact Br_true.mpr ((Br_true.mp h).mono fun r h => h.mono fun d h => key _ _ h)
theorem WhW_succ {c : CE} {b : CB} {n : Nat} {Q : Fl → Ev → Prop} : WhW C c b (n + 1) env Q ↔ W C c env fun r e1 => OW (truthD r.view) fun t => Br t (WB C b e1 (turnQ (fun e => WhW C c b n e Q) Q)) (Q .next e1) := by
  unfold WhW W WB
  rw [whL, evT]
  cases h : ev C c env with
  | none => simp [OW]
  | some p =>
    simp only [OW_some]
    cases truthD p.1.view with
    | none => simp [OW]
    | some t =>
      cases t with
      | false => simp [OW, Br]
      | true =>
        simp only [OW_some, Option.map_some, Br_true]
        cases evB C b p.2 with
        | none => simp [OW]
        | some q =>
          obtain ⟨fl, e⟩ := q
          cases fl <;> simp [OW, turnQ]
/-- a while by its invariant and a measure -/
theorem WhW_inv {c : CE} {b : CB} {n : Nat} {e : Ev} {Q : Fl → Ev → Prop} (I : Nat → Ev → Prop) (m : Nat) (hm : m < n) (h0 : I m e)
    (hs : ∀ m e, I m e → W C c e fun r e1 => OW (truthD r.view) fun t => Br t (WB C b e1 (turnQ (fun e => ∃ k, k < m ∧ I k e) Q)) (Q .next e1)) : WhW C c b n e Q := by
  induction n generalizing e m with
  | zero => omega
  | succ n ih =>
    rw [WhW_succ]
    have := hs m e h0
    unfold W at this ⊢
    refine this.mono fun p h => h.mono fun t h => ?_
    cases t with
    | false => exact Br_false.mpr (Br_false.mp h)
    | true =>
      refine Br_true.mpr ?_
      have h2 := Br_true.mp h
      unfold WB at h2 ⊢
      refine h2.mono fun q h => ?_
      obtain ⟨fl, e3⟩ := q
      cases fl with
      | next => obtain ⟨k, hk, hi⟩ := h; exact ih k (by omega) hi
      | cnt => obtain ⟨k, hk, hi⟩ := h; exact ih k (by omega) hi
      | brk => exact h
      | ret r => exact h

/-! functions -/
end
def cfg (P : Prg) (n : Nat) : Cfg := ⟨run P n, P.glob, P.wf⟩
theorem cfg_glob {P : Prg} {n : Nat} : (cfg P n).glob = P.glob := rfl
theorem cfg_wf {P : Prg} {n : Nat} : (cfg P n).wf = P.wf := rfl
/-- a call's end: what is handed back -/
def endQ (ss : List Sl) (Q : RV → List Sl → Prop) [Fx (ss, Q)] (f : Fl) (e : Ev) : Prop := match f with
  | .ret r => OW (outsOf ss e) fun o => Q r o
  | .next => OW (outsOf ss e) fun o => Q (.val .none) o
  | _ => False
theorem endQ_ret {ss : List Sl} {Q : RV → List Sl → Prop} {r : RV} {e : Ev} : endQ ss Q (.ret r) e ↔ OW (outsOf ss e) fun o => Q r o := Iff.rfl
theorem endQ_next {ss : List Sl} {Q : RV → List Sl → Prop} {e : Ev} : endQ ss Q .next e ↔ OW (outsOf ss e) fun o => Q (.val .none) o := Iff.rfl
def FnOkB (f : Fn) (ss : List Sl) : Bool := decide (ss.length = f.ps.length) && (ownIx 0 ss).all (fun i => !(stoB f.body).contains i)
def Prg.Has (P : Prg) (f : Str) (fn : Fn) : Prop := P.fns.lookup f = some fn
def Prg.Glo (P : Prg) (x : Str) (d : D) : Prop := P.glob x = some d
theorem CW_pos {P : Prg} {n : Nat} {f : Str} {fn : Fn} {ss : List Sl} {Q : RV → List Sl → Prop} (hf : P.Has f fn) (ho : FnOkB fn ss = true)
    (h : WB (cfg P n) fn.body (ss.map some ++ List.replicate (fn.n - ss.length) none) (endQ ss Q)) : CW (cfg P (n + 1)) f [] ss Q := by
  unfold CW
  show OW (run P (n + 1) f [] ss) _
  rw [run, show P.fns.lookup f = some fn from hf]
  show OW (runFn ⟨run P n, P.glob, P.wf⟩ fn ss) _
  unfold runFn
  have ho2 := Bool.and_eq_true_iff.mp ho
  rw [if_pos ⟨of_decide_eq_true ho2.1, ho2.2⟩]
  obtain ⟨p, g, q⟩ := h
  have g : evB ⟨run P n, P.glob, P.wf⟩ fn.body (ss.map some ++ List.replicate (fn.n - ss.length) none) = some p := g
  rw [g]
  obtain ⟨fl, e⟩ := p
  cases fl with
  | next => exact OW_map.mpr q
  | ret r => exact OW_map.mpr q
  | brk => exact q.elim
  | cnt => exact q.elim
/-- a call with keywords by the positional one -/
theorem CW_kw {P : Prg} {n : Nat} {f : Str} {fn : Fn} {ks : List Str} {ss ss' : List Sl} {Q : RV → List Sl → Prop} (hf : P.Has f fn) (hk : ks.isEmpty = false) (ho : (ownIx 0 ss).isEmpty = true) (hb : byName fn.ps ks ss = some ss')
    (h : CW (cfg P (n + 1)) f [] ss' fun r _ => Q r ss) : CW (cfg P (n + 1)) f ks ss Q := by
  unfold CW at h ⊢
  have h : OW (run P (n + 1) f [] ss') fun p => Q p.1 ss := h
  show OW (run P (n + 1) f ks ss) _
  rw [run, show P.fns.lookup f = some fn from hf] at h ⊢
  have h : OW (runFn ⟨run P n, P.glob, P.wf⟩ fn ss') fun p => Q p.1 ss := h
  show OW (if ks.isEmpty = true then _ else _) _
  rw [if_neg (by rw [hk]; exact Bool.false_ne_true), if_pos ho, hb]
  exact OW_map.mpr h
theorem CW.mono {C : Cfg} {f : Str} {ks : List Str} {ss : List Sl} {Q R : RV → List Sl → Prop} (h : CW C f ks ss Q) (g : ∀ r o, Q r o → R r o) : CW C f ks ss R := OW.mono h fun p q => g _ _ q
end EV

set_option Elab.async false
set_option linter.all false
set_option maxRecDepth 100000
set_option maxHeartbeats 2000000
/-! PL2: the rules of values (own work). -/
namespace EV
open PySem PySem.Spec PyProof.Rows L2
theorem str_inj {a b : String} : (Str.ofString a = Str.ofString b) ↔ a = b := by
  constructor
  · intro h
    rw [Str.ofString_eq_toList, Str.ofString_eq_toList] at h
    have h2 : (a.toList.map Char.toNat) = b.toList.map Char.toNat := by
      have := congrArg (fun s : Str => s.cps.toList) h
      simpa using this
    have h3 : a.toList = b.toList := by
      refine List.map_inj_right (f := Char.toNat) (fun x y e => ?_) |>.mp h2
      exact Char.ext (UInt32.toNat_inj.mp e)
    exact String.toList_inj.mp h3
  · rintro rfl; rfl
section
variable {C : Cfg} {env : Ev}
theorem view_val {d : D} : RV.view (.val d) = d := rfl
theorem view_own {o : O} : RV.view (.own o) = fz o := rfl
theorem view_brw {o : O} : RV.view (.brw o) = fz o := rfl
theorem parts_val {d : D} : RV.parts (.val d) = some d := rfl
theorem parts_own {o : O} : RV.parts (.own o) = some (fz o) := rfl
theorem parts_brw_ofL {ds : List D} : RV.parts (.brw (ofL ds)) = some (.list ds) := by
  have : immL (ds.map O.imm) = some ds := by
    induction ds with
    | nil => rfl
    | cons d ds ih => simp [immL, ih]
  simp [RV.parts, ofL, this]
theorem keep_val {d : D} : RV.keep (.val d) = some d := rfl
theorem keep_own {o : O} : RV.keep (.own o) = some (fz o) := rfl
theorem toO_val {d : D} : RV.toO (.val d) = some (.imm d) := rfl
theorem toO_own {o : O} : RV.toO (.own o) = some o := rfl
theorem isBrw_val {d : D} : RV.isBrw (.val d) = false := rfl
theorem isBrw_own {o : O} : RV.isBrw (.own o) = false := rfl
theorem isBrw_brw {o : O} : RV.isBrw (.brw o) = true := rfl
theorem fz_imm {d : D} : fz (.imm d) = d := by simp [fz]
theorem fzs_map {ds : List D} : fzs (ds.map O.imm) = ds := by
  induction ds with
  | nil => simp [fzs]
  | cons d ds ih => simp [fzs, fz, ih]
theorem fz_ofL {ds : List D} : fz (ofL ds) = .list ds := by simp [fz, ofL, fzs_map]
theorem fz_lst {os : List O} : fz (.lst os) = .list (fzs os) := by simp [fz]
theorem fz_dct {kos : List (Key × O)} : fz (.dct kos) = .dict (fzk kos) := by simp [fz]
theorem fzk_nil : fzk [] = [] := by simp [fzk]
theorem fzk_cons {k : Key} {o : O} {r : List (Key × O)} : fzk ((k, o) :: r) = (kD k, fz o) :: fzk r := by simp [fzk]
theorem kD_inl {i : Int} : kD (.inl i) = .int i := rfl
theorem kD_inr {x : Str} : kD (.inr x) = .str x := rfl
theorem dK_int {i : Int} : dK (.int i) = some (.inl i) := rfl
theorem dK_str {x : Str} : dK (.str x) = some (.inr x) := rfl
theorem keeps_nil : keeps [] = some [] := rfl
theorem keeps_cons {r : RV} {rs : List RV} {Q : List D → Prop} : OW (keeps (r :: rs)) Q ↔ OW r.keep fun d => OW (keeps rs) fun ds => Q (d :: ds) := by
  simp only [keeps, OW_bind]
  exact OW_iff fun _ => OW_map
theorem partsL_nil : partsL [] = some [] := rfl
theorem partsL_cons {r : RV} {rs : List RV} {Q : List D → Prop} : OW (partsL (r :: rs)) Q ↔ OW r.parts fun d => OW (partsL rs) fun ds => Q (d :: ds) := by
  simp only [partsL, OW_bind]
  exact OW_iff fun _ => OW_map
theorem truthD_none : truthD .none = some false := rfl
theorem truthD_bool {b : Bool} : truthD (.bool b) = some b := rfl
theorem truthD_int {i : Int} : truthD (.int i) = some (i != 0) := rfl
theorem truthD_list {xs : List D} : truthD (.list xs) = some (!xs.isEmpty) := rfl
theorem truthD_tuple {xs : List D} : truthD (.tuple xs) = some (!xs.isEmpty) := rfl
theorem add_int {i j : Int} : binR .add (.int i) (.int j) = some (.val (.int (i + j))) := rfl
theorem sub_int {i j : Int} : binR .sub (.int i) (.int j) = some (.val (.int (i - j))) := rfl
theorem mul_int {i j : Int} {Q : RV → Prop} : OW (binR .mul (.int i) (.int j)) Q ↔ ((-18446744073709551616 < i ∧ i < 18446744073709551616) ∨ (-18446744073709551616 < j ∧ j < 18446744073709551616)) ∧ Q (.val (.int (i * j))) := by
  show OW (if mulOk i j = true then _ else none) Q ↔ _
  rw [OW_ite, OW_some]
  refine and_congr ?_ Iff.rfl
  simp only [mulOk, Bool.or_eq_true, decide_eq_true_eq]
  omega
theorem fdiv_int {i j : Int} : binR .fdiv (.int i) (.int j) = if 0 < j ∧ j < 1073741824 then some (.val (.int (i / j))) else none := rfl
theorem mod_int {i j : Int} : binR .mod (.int i) (.int j) = if 0 < j then some (.val (.int (i % j))) else none := rfl
theorem pow_int {i j : Int} : binR .pow (.int i) (.int j) = if 0 ≤ j ∧ j ≤ 1000000 ∧ i.natAbs < 2 ^ 64 then some (.val (.int (i ^ j.toNat))) else none := rfl
theorem bxor_int {i j : Int} : binR .bxor (.int i) (.int j) = some (.val (.int (Builtin.bitXor i j))) := rfl
theorem band_int {i j : Int} : binR .band (.int i) (.int j) = some (.val (.int (Builtin.bitAnd i j))) := rfl
theorem bor_int {i j : Int} : binR .bor (.int i) (.int j) = some (.val (.int (Builtin.bitOr i j))) := rfl
theorem add_tup {xs ys : List D} : binR .add (.tuple xs) (.tuple ys) = if xs.length + ys.length ≤ sizeLine then some (.val (.tuple (xs ++ ys))) else none := rfl
theorem add_lst {xs ys : List D} : binR .add (.list xs) (.list ys) = if xs.length + ys.length ≤ sizeLine then some (.own (ofL (xs ++ ys))) else none := rfl
theorem mul_lst {xs : List D} {k : Int} : binR .mul (.list xs) (.int k) = if -(2 ^ 63) ≤ k ∧ k < 2 ^ 63 ∧ xs.length * k.toNat ≤ sizeLine then some (.own (ofL (rep k.toNat xs))) else none := rfl
theorem mul_tup {xs : List D} {k : Int} : binR .mul (.tuple xs) (.int k) = if -(2 ^ 63) ≤ k ∧ k ≤ 1000 ∧ xs.length ≤ 1000 ∧ xs ≠ [] then some (.val (.tuple (rep k.toNat xs))) else none := rfl
theorem rep_one {n : Nat} {d : D} : rep n [d] = List.replicate n d := by
  unfold rep
  induction n with
  | zero => rfl
  | succ n ih => simp [List.replicate_succ, ih]
theorem shaped_int {i : Int} : SeqAt.shaped (.int i) = true := by simp [SeqAt.shaped, PyData.canLay0, PyData.depth]
theorem shaped_bool {b : Bool} : SeqAt.shaped (.bool b) = true := by simp [SeqAt.shaped, PyData.canLay0, PyData.depth]
theorem shaped_none : SeqAt.shaped .none = true := by simp [SeqAt.shaped, PyData.canLay0, PyData.depth]
/-- how deep; no dicts, no odd texts -/
def flat (n : Nat) (d : D) : Bool := d.canLay0 && decide (d.depth ≤ n)
theorem shaped_of_flat {n : Nat} {d : D} (h : flat n d = true) (hn : n ≤ 64) : SeqAt.shaped d = true := by
  simp only [flat, Bool.and_eq_true, decide_eq_true_eq] at h
  simp only [SeqAt.shaped, Bool.and_eq_true, decide_eq_true_eq]
  exact ⟨h.1, by omega⟩
theorem flatAll {n : Nat} : ∀ {xs : List D}, (∀ d ∈ xs, flat n d = true) → PyData.canLayAll0 xs = true ∧ PyData.depthAll xs ≤ n
  | [], _ => by simp [PyData.canLayAll0, PyData.depthAll]
  | d :: ds, h => by
    have h1 := h d List.mem_cons_self
    simp only [flat, Bool.and_eq_true, decide_eq_true_eq] at h1
    obtain ⟨a, b⟩ := flatAll (n := n) (xs := ds) fun e he => h e (List.mem_cons_of_mem _ he)
    simp only [PyData.canLayAll0, PyData.depthAll, Bool.and_eq_true]
    exact ⟨⟨h1.1, a⟩, by omega⟩
theorem flat_list {n : Nat} {xs : List D} (h : ∀ d ∈ xs, flat n d = true) : flat (n + 1) (.list xs) = true := by
  obtain ⟨a, b⟩ := flatAll h
  simp only [flat, PyData.canLay0, PyData.depth, Bool.and_eq_true, decide_eq_true_eq]
  exact ⟨a, decide_eq_true (Nat.succ_le_succ b)⟩
theorem flat_tuple {n : Nat} {xs : List D} (h : ∀ d ∈ xs, flat n d = true) : flat (n + 1) (.tuple xs) = true := by
  obtain ⟨a, b⟩ := flatAll h
  simp only [flat, PyData.canLay0, PyData.depth, Bool.and_eq_true, decide_eq_true_eq]
  exact ⟨a, decide_eq_true (Nat.succ_le_succ b)⟩
theorem flat_int {n : Nat} {i : Int} : flat n (.int i) = true := by simp [flat, PyData.canLay0, PyData.depth]
/-- data of dI -/
def dI (l : List Int) : List D := l.map PyData.int
theorem flat_ints {n : Nat} {l : List Int} : ∀ d ∈ dI l, flat n d = true := fun d hd => by
  obtain ⟨i, _, rfl⟩ := List.mem_map.mp hd
  exact flat_int
theorem shaped_ints_list {l : List Int} : SeqAt.shaped (.list (dI l)) = true := shaped_of_flat (flat_list (n := 0) flat_ints) (by decide)
theorem shaped_ints_tuple {l : List Int} : SeqAt.shaped (.tuple (dI l)) = true := shaped_of_flat (flat_tuple (n := 0) flat_ints) (by decide)
theorem eqv_int {i j : Int} : PyData.eqv (.int i) (.int j) = decide (i = j) := by
  simp only [PyData.eqv]; rfl
theorem eqv_ints : ∀ {l m : List Int}, PyData.eqvAll (dI l) (dI m) = decide (l = m)
  | [], [] => by simp [dI, PyData.eqvAll]
  | [], _ :: _ => by simp [dI, PyData.eqvAll]
  | _ :: _, [] => by simp [dI, PyData.eqvAll]
  | a :: l, b :: m => by
    have := eqv_ints (l := l) (m := m)
    simp only [dI] at this
    simp only [dI, List.map_cons, PyData.eqvAll, eqv_int, this, List.cons.injEq]
    by_cases h : a = b <;> by_cases g : l = m <;> simp [h, g]
theorem eq_int {i j : Int} : cmpR .eq (.int i) (.int j) = some (decide (i = j)) := by
  simp only [cmpR, eqD, shaped_int, eqv_int, Bool.and_self, if_true]
theorem ne_int {i j : Int} : cmpR .ne (.int i) (.int j) = some (!decide (i = j)) := by
  simp only [cmpR, eqD, shaped_int, eqv_int, Bool.and_self, if_true, Option.map_some]
theorem lt_int {i j : Int} : cmpR .lt (.int i) (.int j) = some (decide (i < j)) := rfl
theorem le_int {i j : Int} : cmpR .le (.int i) (.int j) = some (decide (i ≤ j)) := rfl
theorem gt_int {i j : Int} : cmpR .gt (.int i) (.int j) = some (decide (j < i)) := rfl
theorem ge_int {i j : Int} : cmpR .ge (.int i) (.int j) = some (decide (j ≤ i)) := rfl
theorem eq_str_refl {x : Str} (h : PyData.strOk x = true) : cmpR .eq (.str x) (.str x) = some true := by
  simp [cmpR, eqD, SeqAt.shaped, PyData.canLay0, PyData.depth, h, PyData.eqv]
theorem at_dct {kos : List (Key × O)} {x : Str} : (O.dct kos).at (.str x) = (kos.find? fun p => decide (p.1 = .inr x)).map (·.2) := rfl
theorem ofO_imm {d : D} : ofO (.imm d) = .val d := rfl
theorem ofO_ofL {ds : List D} : ofO (ofL ds) = .brw (ofL ds) := rfl
theorem ofO_dct {kos : List (Key × O)} : ofO (.dct kos) = .brw (.dct kos) := rfl
theorem idx_val {d k : D} : idxR (.val d) k = (idxD d k).map .val := rfl
theorem idx_own {o : O} {k : D} : idxR (.own o) k = (idxD (fz o) k).map .val := rfl
theorem idx_brw {o : O} {k : D} : idxR (.brw o) k = (o.at k).map ofO := rfl
theorem idxD_list {xs : List D} {i : Int} : idxD (.list xs) (.int i) = atI xs i := rfl
theorem idxD_tuple {xs : List D} {i : Int} : idxD (.tuple xs) (.int i) = atI xs i := rfl
theorem idxD_dict {kvs : List (D × D)} {k : D} : idxD (.dict kvs) k = if plainKs kvs then (dK k).bind (findK kvs) else none := rfl
theorem atI_nat {α : Type} {xs : List α} {i : Nat} : atI xs (i : Int) = xs[i]? := by
  unfold atI ixN
  rw [if_pos (by omega)]
  by_cases h : i < xs.length
  · rw [if_pos (by omega)]
    simp
  · rw [if_neg (by omega)]
    simp
    omega
theorem atI_int {α : Type} {xs : List α} {i : Int} (h : 0 ≤ i) : atI xs i = xs[i.toNat]? := by
  obtain ⟨n, rfl⟩ := Int.eq_ofNat_of_zero_le h
  exact atI_nat
theorem at_ofL {ds : List D} {i : Int} : (ofL ds).at (.int i) = (atI ds i).map .imm := by
  show atI (ds.map O.imm) i = _
  unfold atI
  rw [List.length_map]
  cases ixN ds.length i with
  | none => rfl
  | some j => simp
theorem slc_list {xs : List D} {lo hi : Option Int} : slcR (.list xs) lo hi = some (.own (ofL (cut xs lo hi))) := rfl
theorem slc_tuple {xs : List D} {lo hi : Option Int} : slcR (.tuple xs) lo hi = some (.val (.tuple (cut xs lo hi))) := rfl
theorem rev_list {xs : List D} : revR (.list xs) = some (.own (ofL xs.reverse)) := rfl
theorem rev_tuple {xs : List D} : revR (.tuple xs) = some (.val (.tuple xs.reverse)) := rfl
theorem len_list {xs : List D} : bltR .len [.list xs] = some (.val (.int xs.length)) := rfl
theorem len_tuple {xs : List D} : bltR .len [.tuple xs] = some (.val (.int xs.length)) := rfl
theorem int_int {i : Int} : bltR .int [.int i] = some (.val (.int i)) := rfl
theorem max_int {i j : Int} : bltR .max [.int i, .int j] = some (.val (.int (if j > i then j else i))) := rfl
theorem min_int {i j : Int} : bltR .min [.int i, .int j] = some (.val (.int (if j < i then j else i))) := rfl
theorem tuple_list {xs : List D} : bltR .tuple [.list xs] = some (.val (.tuple xs)) := rfl
theorem tuple_tuple {xs : List D} : bltR .tuple [.tuple xs] = some (.val (.tuple xs)) := rfl
theorem list_list {xs : List D} : bltR .list [.list xs] = some (.own (ofL xs)) := rfl
theorem list_tuple {xs : List D} : bltR .list [.tuple xs] = some (.own (ofL xs)) := rfl
theorem repr_ow {x : D} : bltR .repr [x] = if x.showable && !x.hasDict && decide (x.depth < 64) && decide (x.shown.length ≤ sizeLine) then some (.val (.str x.shown)) else none := rfl
theorem isInts_ints : ∀ {l : List Int}, isInts (dI l) = some l
  | [] => rfl
  | i :: l => by
    show (isInts (dI l)).map (i :: ·) = _
    rw [isInts_ints]
    rfl
theorem sum_ints {l : List Int} : bltR .sum [.list (dI l)] = some (.val (.int l.sum)) := by
  show (isInts (dI l)).map _ = _
  rw [isInts_ints]; rfl
theorem range1 {n : Int} : iterB .range [.int n] = if rngOk 0 n then some (rngL 0 n) else none := rfl
theorem range2 {a n : Int} : iterB .range [.int a, .int n] = if rngOk a n then some (rngL a n) else none := rfl
theorem rngL_get {lo hi : Int} {i : Nat} {x : D} : (rngL lo hi)[i]? = some x ↔ i < (hi - lo).toNat ∧ x = .int (lo + i) := by
  unfold rngL
  rw [List.getElem?_map]
  constructor
  · intro h
    by_cases hi' : i < (hi - lo).toNat
    · simp [hi'] at h
      exact ⟨hi', h.symm⟩
    · simp [hi'] at h
  · rintro ⟨h, rfl⟩
    simp [h]
theorem rngL_len {lo hi : Int} : (rngL lo hi).length = (hi - lo).toNat := by simp [rngL]
theorem rngOk_iff {a b : Int} : rngOk a b = true ↔ -(2 ^ 62) ≤ a ∧ a < 2 ^ 62 ∧ -(2 ^ 62) ≤ b ∧ b < 2 ^ 62 ∧ (b - a).toNat ≤ 2 ^ 24 := by simp [rngOk]
theorem items_list {xs : List D} : itemsOf (.list xs) = some xs := rfl
theorem items_tuple {xs : List D} : itemsOf (.tuple xs) = some xs := rfl
theorem isi_int {i : Int} {ts : List Ty} : isiAny (.int i) ts = some (ts.contains .int) := by
  induction ts with
  | nil => rfl
  | cons t ts ih => cases t <;> simp [isiAny, isiD, ih] <;> rfl
theorem append_ofL {ds : List D} {d : D} : mutR .append (ofL ds) [.val d] = if ds.length < sizeLine then some (.val .none, ofL (ds ++ [d])) else none := by
  simp [mutR, ofL]
theorem pop_snoc {ds : List D} {d : D} : mutR .pop (ofL (ds ++ [d])) [] = some (.val d, ofL ds) := by
  simp [mutR, ofL]
theorem atP_nil {o : O} : atP o [] = some o := rfl
theorem putP_nil {o v : O} : putP o [] v = some v := rfl
theorem atP_cons {o : O} {k : D} {ks : List D} : atP o (k :: ks) = (o.at k).bind fun o' => atP o' ks := rfl
theorem putP_cons {o v : O} {k : D} {ks : List D} : putP o (k :: ks) v = (o.at k).bind fun o' => (putP o' ks v).bind fun o2 => setAt o k o2 := rfl
theorem setAt_dct {kos : List (Key × O)} {x : Str} {v : O} : setAt (.dct kos) (.str x) v = if kos.length < sizeLine then some (.dct (putO kos (.inr x) v)) else none := rfl
theorem setAt_ofL {ds : List D} {i : Int} {d : D} : setAt (ofL ds) (.int i) (.imm d) = (ixN ds.length i).map fun j => ofL (ds.set j d) := by
  show (ixN (ds.map O.imm).length i).map _ = _
  rw [List.length_map]
  cases ixN ds.length i with
  | none => rfl
  | some j => simp [ofL, List.map_set]
theorem setT_nm {i : Nat} {d : D} {e : Ev} : setT (.nm i) d e = some (e.set i (some (.val d))) := by simp [setT]
theorem setT_tup {ts : CTs} {ds : List D} {e : Ev} : setT (.tup ts) (.tuple ds) e = setTs ts ds e := by simp [setT]
theorem setT_lst {ts : CTs} {ds : List D} {e : Ev} : setT (.tup ts) (.list ds) e = setTs ts ds e := by simp [setT]
theorem enumT {l : List D} : iterB .enumerate [.tuple l] = some (enumL 0 l) := rfl
theorem enumLs {l : List D} : iterB .enumerate [.list l] = some (enumL 0 l) := rfl
theorem zipTT {l m : List D} : iterB .zip [.tuple l, .tuple m] = some (zipL l m) := rfl
theorem zipLL {l m : List D} : iterB .zip [.list l, .list m] = some (zipL l m) := rfl
theorem setTs_nil {e : Ev} : setTs .nil [] e = some e := by simp [setTs]
theorem setTs_cons {t : CT} {ts : CTs} {d : D} {ds : List D} {e : Ev} : setTs (.cons t ts) (d :: ds) e = (setT t d e).bind fun e => setTs ts ds e := by simp [setTs]
theorem isL_ofL {ds : List D} : isL (some (ofL ds)) = true := rfl
theorem isL_lst {os : List O} : isL (some (.lst os)) = true := rfl
theorem lent_nil : lent env [] = some ([], env) := rfl
theorem lent_val {d : D} {r : List Ag} : lent env (.val d :: r) = (lent env r).map fun p => (.val d :: p.1, p.2) := rfl
theorem lent_lend {i : Nat} {r : List Ag} {o : O} (h : env[i]? = some (some (.own o))) : lent env (.lend i :: r) = (lent (env.set i none) r).map fun p => (.own o :: p.1, p.2) := by
  simp [lent, h]
theorem back_nil : backL env [] [] = some env := rfl
theorem back_val {d : D} {r : List Ag} {x : Sl} {s : List Sl} : backL env (.val d :: r) (x :: s) = backL env r s := by cases x <;> rfl
theorem back_lend {i : Nat} {r : List Ag} {o : O} {s : List Sl} : backL env (.lend i :: r) (.own o :: s) = backL (env.set i (some (.own o))) r s := rfl
theorem outs_nil {e : Ev} : outsOf [] e = some [] := by cases e <;> rfl
theorem outs_val {d : D} {r : List Sl} {x : Option Sl} {e : Ev} : outsOf (.val d :: r) (x :: e) = (outsOf r e).map (.val d :: ·) := by cases x <;> rfl
theorem outs_own {o o' : O} {r : List Sl} {e : Ev} : outsOf (.own o :: r) (some (.own o') :: e) = (outsOf r e).map (.own o' :: ·) := rfl
theorem Cd_non : Cn.d .non = .none := rfl
theorem Cd_bl {b : Bool} : Cn.d (.bl b) = .bool b := rfl
theorem Cd_int {i : Int} : Cn.d (.int i) = .int i := rfl
theorem Cd_str {x : Str} : Cn.d (.str x) = .str x := rfl
theorem parL_nil {e : Ev} : parL [] [] e = some e := rfl
theorem parL_f {i : Nat} {t : List (Nat × Bool)} {r : RV} {rs : List RV} {e : Ev} {Q : Ev → Prop} : OW (parL ((i, false) :: t) (r :: rs) e) Q ↔ OW r.keep fun d => OW (parL t rs (e.set i (some (.val d)))) Q := OW_bind
theorem parL_o {i : Nat} {t : List (Nat × Bool)} {o : O} {rs : List RV} {e : Ev} : parL ((i, true) :: t) (.own o :: rs) e = parL t rs (e.set i (some (.own o))) := rfl
theorem parL_v {i : Nat} {t : List (Nat × Bool)} {d : D} {rs : List RV} {e : Ev} : parL ((i, true) :: t) (.val d :: rs) e = parL t rs (e.set i (some (.val d))) := rfl
theorem plainAt_nil : plainAt env [] = true := rfl
theorem hands_eq {b : Blt} : b.hands = match b with
    | .tuple => true
    | .list => true
    | _ => false := rfl
end
/-- positive remainders -/
theorem mod_lo {a b : Int} (h : 0 < b) : 0 ≤ a % b := Int.emod_nonneg a (by omega)
theorem mod_hi {a b : Int} (h : 0 < b) : a % b < b := Int.emod_lt_of_pos a h

/-! tables -/
def tabI (n : Int) (f : Int → D) : List D := (List.range n.toNat).map fun i => f (i : Nat)
theorem tabI_len {n : Int} {f : Int → D} : (tabI n f).length = n.toNat := by simp [tabI]
theorem tabI_get {n : Int} {f : Int → D} {i : Nat} {x : D} : (tabI n f)[i]? = some x ↔ i < n.toNat ∧ x = f (i : Nat) := by
  unfold tabI
  rw [List.getElem?_map]
  constructor
  · intro h
    by_cases hi' : i < n.toNat
    · simp [hi'] at h
      exact ⟨hi', h.symm⟩
    · simp [hi'] at h
  · rintro ⟨h, rfl⟩
    simp [h]
theorem tabI_at {n i : Int} {f : Int → D} (h0 : 0 ≤ i) (h1 : i < n) : atI (tabI n f) i = some (f i) := by
  rw [atI_int h0, tabI_get]
  exact ⟨by omega, by rw [Int.toNat_of_nonneg h0]⟩
theorem rng_tab {a n : Int} : rngL a n = tabI (n - a) fun i => .int (a + i) := rfl
theorem rng0_tab {n : Int} : rngL 0 n = tabI n PyData.int := by
  rw [rng_tab, Int.sub_zero]
  refine congrArg (tabI n) ?_
  funext i
  rw [Int.zero_add]
theorem tabI_congr {n : Int} {f g : Int → D} (h : ∀ i, 0 ≤ i → i < n → f i = g i) : tabI n f = tabI n g := by
  unfold tabI
  refine List.map_congr_left fun i hi => h _ (by omega) ?_
  have := List.mem_range.mp hi
  omega
theorem tabI_snoc {i : Nat} {f : Int → D} : tabI ((i : Int) + 1) f = tabI (i : Int) f ++ [f i] := by
  have e : ((i : Int) + 1).toNat = i + 1 := by omega
  have e2 : ((i : Int)).toNat = i := by omega
  unfold tabI
  rw [e, e2, List.range_succ, List.map_append]
  rfl
theorem tabI_snocZ {i : Int} {f : Int → D} (h : 0 ≤ i) : tabI (i + 1) f = tabI i f ++ [f i] := by
  obtain ⟨n, rfl⟩ := Int.eq_ofNat_of_zero_le h
  exact tabI_snoc
theorem tabI_zero {f : Int → D} : tabI 0 f = [] := rfl
def tabZ (n : Int) (f : Int → Int) : List Int := (List.range n.toNat).map fun i => f (i : Nat)
theorem tabI_dI {n : Int} {f : Int → Int} : tabI n (fun i => .int (f i)) = dI (tabZ n f) := by simp [tabI, dI, tabZ]
theorem mem_tabI {n : Int} {f : Int → D} {d : D} : d ∈ tabI n f ↔ ∃ i, 0 ≤ i ∧ i < n ∧ d = f i := by
  unfold tabI
  rw [List.mem_map]
  constructor
  · rintro ⟨i, hi, rfl⟩
    exact ⟨i, by omega, by have := List.mem_range.mp hi; omega, rfl⟩
  · rintro ⟨i, h0, h1, rfl⟩
    exact ⟨i.toNat, List.mem_range.mpr (by omega), by rw [Int.toNat_of_nonneg h0]⟩
theorem range1t {n : Int} : iterB .range [.int n] = if rngOk 0 n then some (tabI n PyData.int) else none := by rw [range1, rng0_tab]
theorem range2t {a n : Int} : iterB .range [.int a, .int n] = if rngOk a n then some (tabI (n - a) fun i => .int (a + i)) else none := by rw [range2, rng_tab]
section
variable {C : Cfg} {env : Ev}
/-- a comprehension that leaves all but its own slots alone; g: what each turn makes -/
theorem LcW_fil {t : CT} {cond elt : CE} {vs : List Nat} {xs : List D} {e : Ev} {Q : List D → Ev → Prop} (g : Nat → Option D) (hb : backE e e vs = e)
    (hs : ∀ i x, xs[i]? = some x → OW (setT t x (wipeE e vs)) fun e2 => LtW C cond elt e2 fun o e' => o = g i ∧ wipeE e' vs = wipeE e vs ∧ backE e' e vs = e)
    (hq : ∀ e2, backE e2 e vs = e → Q ((List.range xs.length).filterMap g) e2) : LcW (lcF C t cond elt vs) xs e Q := by
  refine LcW_inv (fun i ds e' => ds = (List.range i).filterMap g ∧ wipeE e' vs = wipeE e vs ∧ backE e' e vs = e) ⟨rfl, rfl, hb⟩ (fun i x ds e' hx h => ?_) fun ds e' h => ?_
  · obtain ⟨h1, h2, h3⟩ := h
    rw [h2]
    refine (hs i x hx).mono fun e2 h => ?_
    unfold LtW W at h ⊢
    refine h.mono fun p h => h.mono fun b h => ?_
    have key : ∀ (o : Option D), o = g i → ds ++ o.toList = (List.range (i + 1)).filterMap g := fun o ho => by
      rw [List.range_succ, List.filterMap_append, h1, ho]
      cases h : g i <;> simp [h]
    cases b with
    | false =>
      obtain ⟨a, b, c⟩ := Br_false.mp h
      exact Br_false.mpr ⟨key _ a, b, c⟩
    | true => exact Br_true.mpr ((Br_true.mp h).mono fun r h => h.mono fun d h => ⟨key _ h.1, h.2⟩)
  · obtain ⟨rfl, h2, h3⟩ := h
    exact hq _ h3
theorem fil_some {n : Nat} {f : Nat → D} : (List.range n).filterMap (fun i => some (f i)) = (List.range n).map f := by
  rw [← List.filterMap_eq_map]
  rfl
/-- a comprehension over a table, without a condition -/
theorem LcW_tab {t : CT} {cond elt : CE} {vs : List Nat} {n : Int} {h : Int → D} {e : Ev} {Q : List D → Ev → Prop} (f : Int → D) (hb : backE e e vs = e)
    (hs : ∀ i, 0 ≤ i → i < n → OW (setT t (h i) (wipeE e vs)) fun e2 => LtW C cond elt e2 fun o e' => o = some (f i) ∧ wipeE e' vs = wipeE e vs ∧ backE e' e vs = e)
    (hq : ∀ e2, backE e2 e vs = e → Q (tabI n f) e2) : LcW (lcF C t cond elt vs) (tabI n h) e Q := by
  refine LcW_fil (fun i => some (f i)) hb (fun i x hx => ?_) fun e2 he => ?_
  · obtain ⟨hi, rfl⟩ := tabI_get.mp hx
    exact hs _ (by omega) (by omega)
  · rw [tabI_len, fil_some]
    exact hq e2 he
/-- a comprehension over any list, without a condition -/
theorem LcW_map {t : CT} {cond elt : CE} {vs : List Nat} {xs : List D} {e : Ev} {Q : List D → Ev → Prop} (f : D → D) (hb : backE e e vs = e)
    (hs : ∀ x, x ∈ xs → OW (setT t x (wipeE e vs)) fun e2 => LtW C cond elt e2 fun o e' => o = some (f x) ∧ wipeE e' vs = wipeE e vs ∧ backE e' e vs = e)
    (hq : ∀ e2, backE e2 e vs = e → Q (xs.map f) e2) : LcW (lcF C t cond elt vs) xs e Q := by
  refine LcW_inv (fun i ds e' => ds = (xs.take i).map f ∧ wipeE e' vs = wipeE e vs ∧ backE e' e vs = e) ⟨rfl, rfl, hb⟩ (fun i x ds e' hx h => ?_) fun ds e' h => ?_
  · obtain ⟨h1, h2, h3⟩ := h
    rw [h2]
    refine (hs x (List.mem_of_getElem? hx)).mono fun e2 h => ?_
    unfold LtW W at h ⊢
    refine h.mono fun p h => h.mono fun b h => ?_
    have key : ∀ (o : Option D), o = some (f x) → ds ++ o.toList = (xs.take (i + 1)).map f := fun o ho => by
      rw [List.take_add_one, List.map_append, h1, ho, hx]
      rfl
    cases b with
    | false =>
      obtain ⟨a, b, c⟩ := Br_false.mp h
      exact Br_false.mpr ⟨key _ a, b, c⟩
    | true => exact Br_true.mpr ((Br_true.mp h).mono fun r h => h.mono fun d h => ⟨key _ h.1, h.2⟩)
  · obtain ⟨rfl, h2, h3⟩ := h
    rw [List.take_length]
    exact hq _ h3
/-- a comprehension over any list that keeps some of its items as they are -/
theorem LcW_filter {t : CT} {cond elt : CE} {vs : List Nat} {xs : List D} {e : Ev} {Q : List D → Ev → Prop} (f : D → Option D) (hb : backE e e vs = e)
    (hs : ∀ x, x ∈ xs → OW (setT t x (wipeE e vs)) fun e2 => LtW C cond elt e2 fun o e' => o = f x ∧ wipeE e' vs = wipeE e vs ∧ backE e' e vs = e)
    (hq : ∀ e2, backE e2 e vs = e → Q (xs.filterMap f) e2) : LcW (lcF C t cond elt vs) xs e Q := by
  refine LcW_inv (fun i ds e' => ds = (xs.take i).filterMap f ∧ wipeE e' vs = wipeE e vs ∧ backE e' e vs = e) ⟨rfl, rfl, hb⟩ (fun i x ds e' hx h => ?_) fun ds e' h => ?_
  · obtain ⟨h1, h2, h3⟩ := h
    rw [h2]
    refine (hs x (List.mem_of_getElem? hx)).mono fun e2 h => ?_
    unfold LtW W at h ⊢
    refine h.mono fun p h => h.mono fun b h => ?_
    have key : ∀ (o : Option D), o = f x → ds ++ o.toList = (xs.take (i + 1)).filterMap f := fun o ho => by
      rw [List.take_add_one, List.filterMap_append, h1, ho, hx]
      cases h : f x <;> simp [h]
    cases b with
    | false =>
      obtain ⟨a, b, c⟩ := Br_false.mp h
      exact Br_false.mpr ⟨key _ a, b, c⟩
    | true => exact Br_true.mpr ((Br_true.mp h).mono fun r h => h.mono fun d h => ⟨key _ h.1, h.2⟩)
  · obtain ⟨rfl, h2, h3⟩ := h
    rw [List.take_length]
    exact hq _ h3
/-- a for over a table by its invariant -/
theorem FoW_tab {t : CT} {b : CB} {n : Int} {h : Int → D} {e : Ev} {Q : Fl → Ev → Prop} (I : Int → Ev → Prop) (h0 : I 0 e)
    (hs : ∀ i e, 0 ≤ i → i < n → I i e → OW (setT t (h i) e) fun e2 => WB C b e2 (turnQ (I (i + 1)) Q)) (hq : ∀ i e, i = n ∨ (n < 0 ∧ i = 0) → I i e → Q .next e) : FoW (forF C t b) (tabI n h) e Q := by
  refine FoW_inv (fun i e => I (i : Nat) e) h0 (fun i x e hx hi => ?_) fun e he => ?_
  · obtain ⟨hi', rfl⟩ := tabI_get.mp hx
    exact hs _ _ (by omega) (by omega) hi
  · rw [tabI_len] at he
    refine hq _ e ?_ he
    omega
theorem WS_augA {i : Nat} {e : CE} {Q : Fl → Ev → Prop} : WS C (.aug i .add e) env Q ↔ SlotV env[i]? fun s => ∃ x, s = .val (.int x) ∧ W C e env fun r e1 => ∃ y, r = .val (.int y) ∧ Q .next (e1.set i (some (.val (.int (x + y))))) := by
  rw [WS_aug (Or.inl rfl)]; rfl
theorem WS_augS {i : Nat} {e : CE} {Q : Fl → Ev → Prop} : WS C (.aug i .sub e) env Q ↔ SlotV env[i]? fun s => ∃ x, s = .val (.int x) ∧ W C e env fun r e1 => ∃ y, r = .val (.int y) ∧ Q .next (e1.set i (some (.val (.int (x - y))))) := by
  rw [WS_aug (Or.inr rfl)]; rfl
theorem LtW_eq {cond elt : CE} {e : Ev} {N : Option D → Ev → Prop} : LtW C cond elt e N ↔ W C cond e fun rc e1 => OW (truthD rc.view) fun t => Br t (W C elt e1 fun r e2 => OW r.keep fun d => N (some d) e2) (N none e1) := Iff.rfl
end
/-- the built-in repr at what is shown within bounds -/
def repOk (x : D) : Bool := x.showable && !x.hasDict && decide (x.depth < 64) && decide (x.shown.length ≤ sizeLine)
theorem repr_ok {x : D} (h : repOk x = true) : bltR .repr [x] = some (.val (.str x.shown)) := by
  rw [repr_ow]
  exact if_pos h
theorem WA_c_var {C : Cfg} {env : Ev} {i : Nat} {es : CL} {Q : List Ag → Ev → Prop} : WA C (.cons (.var i) es) env Q ↔ W C (.var i) env fun r e1 => OW r.keep fun d => WA C es e1 fun rs e2 => Q (.val d :: rs) e2 := WA_cons rfl
theorem WA_c_mv {C : Cfg} {env : Ev} {i : Nat} {es : CL} {Q : List Ag → Ev → Prop} : WA C (.cons (.mv i) es) env Q ↔ W C (.mv i) env fun r e1 => OW r.keep fun d => WA C es e1 fun rs e2 => Q (.val d :: rs) e2 := WA_cons rfl
theorem WA_c_con {C : Cfg} {env : Ev} {c : Cn} {es : CL} {Q : List Ag → Ev → Prop} : WA C (.cons (.con c) es) env Q ↔ W C (.con c) env fun r e1 => OW r.keep fun d => WA C es e1 fun rs e2 => Q (.val d :: rs) e2 := WA_cons rfl
theorem WA_c_glo {C : Cfg} {env : Ev} {x : Str} {es : CL} {Q : List Ag → Ev → Prop} : WA C (.cons (.glo x) es) env Q ↔ W C (.glo x) env fun r e1 => OW r.keep fun d => WA C es e1 fun rs e2 => Q (.val d :: rs) e2 := WA_cons rfl
theorem WA_c_bin {C : Cfg} {env : Ev} {o : BOp} {a b : CE} {es : CL} {Q : List Ag → Ev → Prop} : WA C (.cons (.bin o a b) es) env Q ↔ W C (.bin o a b) env fun r e1 => OW r.keep fun d => WA C es e1 fun rs e2 => Q (.val d :: rs) e2 := WA_cons rfl
theorem WA_c_neg {C : Cfg} {env : Ev} {a : CE} {es : CL} {Q : List Ag → Ev → Prop} : WA C (.cons (.neg a) es) env Q ↔ W C (.neg a) env fun r e1 => OW r.keep fun d => WA C es e1 fun rs e2 => Q (.val d :: rs) e2 := WA_cons rfl
theorem WA_c_not {C : Cfg} {env : Ev} {a : CE} {es : CL} {Q : List Ag → Ev → Prop} : WA C (.cons (.not a) es) env Q ↔ W C (.not a) env fun r e1 => OW r.keep fun d => WA C es e1 fun rs e2 => Q (.val d :: rs) e2 := WA_cons rfl
theorem WA_c_cmp {C : Cfg} {env : Ev} {o : COp} {a b : CE} {es : CL} {Q : List Ag → Ev → Prop} : WA C (.cons (.cmp o a b) es) env Q ↔ W C (.cmp o a b) env fun r e1 => OW r.keep fun d => WA C es e1 fun rs e2 => Q (.val d :: rs) e2 := WA_cons rfl
theorem WA_c_chn {C : Cfg} {env : Ev} {o p : COp} {a b c : CE} {es : CL} {Q : List Ag → Ev → Prop} : WA C (.cons (.chn o p a b c) es) env Q ↔ W C (.chn o p a b c) env fun r e1 => OW r.keep fun d => WA C es e1 fun rs e2 => Q (.val d :: rs) e2 := WA_cons rfl
theorem WA_c_and {C : Cfg} {env : Ev} {a b : CE} {es : CL} {Q : List Ag → Ev → Prop} : WA C (.cons (.and a b) es) env Q ↔ W C (.and a b) env fun r e1 => OW r.keep fun d => WA C es e1 fun rs e2 => Q (.val d :: rs) e2 := WA_cons rfl
theorem WA_c_or {C : Cfg} {env : Ev} {a b : CE} {es : CL} {Q : List Ag → Ev → Prop} : WA C (.cons (.or a b) es) env Q ↔ W C (.or a b) env fun r e1 => OW r.keep fun d => WA C es e1 fun rs e2 => Q (.val d :: rs) e2 := WA_cons rfl
theorem WA_c_ite {C : Cfg} {env : Ev} {a b c : CE} {es : CL} {Q : List Ag → Ev → Prop} : WA C (.cons (.ite a b c) es) env Q ↔ W C (.ite a b c) env fun r e1 => OW r.keep fun d => WA C es e1 fun rs e2 => Q (.val d :: rs) e2 := WA_cons rfl
theorem WA_c_tup {C : Cfg} {env : Ev} {a : CL} {es : CL} {Q : List Ag → Ev → Prop} : WA C (.cons (.tup a) es) env Q ↔ W C (.tup a) env fun r e1 => OW r.keep fun d => WA C es e1 fun rs e2 => Q (.val d :: rs) e2 := WA_cons rfl
theorem WA_c_lst {C : Cfg} {env : Ev} {a : CL} {es : CL} {Q : List Ag → Ev → Prop} : WA C (.cons (.lst a) es) env Q ↔ W C (.lst a) env fun r e1 => OW r.keep fun d => WA C es e1 fun rs e2 => Q (.val d :: rs) e2 := WA_cons rfl
theorem WA_c_dct {C : Cfg} {env : Ev} {a : CP} {es : CL} {Q : List Ag → Ev → Prop} : WA C (.cons (.dct a) es) env Q ↔ W C (.dct a) env fun r e1 => OW r.keep fun d => WA C es e1 fun rs e2 => Q (.val d :: rs) e2 := WA_cons rfl
theorem WA_c_rng {C : Cfg} {env : Ev} {t : Bool} {a : CL} {es : CL} {Q : List Ag → Ev → Prop} : WA C (.cons (.rng t a) es) env Q ↔ W C (.rng t a) env fun r e1 => OW r.keep fun d => WA C es e1 fun rs e2 => Q (.val d :: rs) e2 := WA_cons rfl
theorem WA_c_idx {C : Cfg} {env : Ev} {a b : CE} {es : CL} {Q : List Ag → Ev → Prop} : WA C (.cons (.idx a b) es) env Q ↔ W C (.idx a b) env fun r e1 => OW r.keep fun d => WA C es e1 fun rs e2 => Q (.val d :: rs) e2 := WA_cons rfl
theorem WA_c_slc {C : Cfg} {env : Ev} {a : CE} {b c : CO} {es : CL} {Q : List Ag → Ev → Prop} : WA C (.cons (.slc a b c) es) env Q ↔ W C (.slc a b c) env fun r e1 => OW r.keep fun d => WA C es e1 fun rs e2 => Q (.val d :: rs) e2 := WA_cons rfl
theorem WA_c_rev {C : Cfg} {env : Ev} {a : CE} {es : CL} {Q : List Ag → Ev → Prop} : WA C (.cons (.rev a) es) env Q ↔ W C (.rev a) env fun r e1 => OW r.keep fun d => WA C es e1 fun rs e2 => Q (.val d :: rs) e2 := WA_cons rfl
theorem WA_c_call {C : Cfg} {env : Ev} {f : Str} {a : CL} {k : List Str} {es : CL} {Q : List Ag → Ev → Prop} : WA C (.cons (.call f a k) es) env Q ↔ W C (.call f a k) env fun r e1 => OW r.keep fun d => WA C es e1 fun rs e2 => Q (.val d :: rs) e2 := WA_cons rfl
theorem WA_c_blt {C : Cfg} {env : Ev} {b : Blt} {a : CL} {es : CL} {Q : List Ag → Ev → Prop} : WA C (.cons (.blt b a) es) env Q ↔ W C (.blt b a) env fun r e1 => OW r.keep fun d => WA C es e1 fun rs e2 => Q (.val d :: rs) e2 := WA_cons rfl
theorem WA_c_mth {C : Cfg} {env : Ev} {m : Mth} {a : CE} {l : CL} {es : CL} {Q : List Ag → Ev → Prop} : WA C (.cons (.mth m a l) es) env Q ↔ W C (.mth m a l) env fun r e1 => OW r.keep fun d => WA C es e1 fun rs e2 => Q (.val d :: rs) e2 := WA_cons rfl
theorem WA_c_mut {C : Cfg} {env : Ev} {m : Mth} {i : Nat} {a l : CL} {es : CL} {Q : List Ag → Ev → Prop} : WA C (.cons (.mut m i a l) es) env Q ↔ W C (.mut m i a l) env fun r e1 => OW r.keep fun d => WA C es e1 fun rs e2 => Q (.val d :: rs) e2 := WA_cons rfl
theorem WA_c_isi {C : Cfg} {env : Ev} {a : CE} {t : List Ty} {es : CL} {Q : List Ag → Ev → Prop} : WA C (.cons (.isi a t) es) env Q ↔ W C (.isi a t) env fun r e1 => OW r.keep fun d => WA C es e1 fun rs e2 => Q (.val d :: rs) e2 := WA_cons rfl
theorem WA_c_lc {C : Cfg} {env : Ev} {t : CT} {i : CI} {a b : CE} {v : List Nat} {es : CL} {Q : List Ag → Ev → Prop} : WA C (.cons (.lc t i a b v) es) env Q ↔ W C (.lc t i a b v) env fun r e1 => OW r.keep fun d => WA C es e1 fun rs e2 => Q (.val d :: rs) e2 := WA_cons rfl
theorem lent_own {env : Ev} {i : Nat} {r : List Ag} {Q : List Sl × Ev → Prop} : OW (lent env (.lend i :: r)) Q ↔ OwnV env[i]? fun o => OW (lent (env.set i none) r) fun p => Q (.own o :: p.1, p.2) := by
  rw [lent]
  refine Iff.trans (OwnV_iff (f := fun o => (lent (env.set i none) r).map fun p => (Sl.own o :: p.1, p.2))) (OwnV_same fun _ => OW_map)
theorem isi_none_int  : isiAny (.none) [.int] = some false := rfl
theorem isi_none_bool  : isiAny (.none) [.bool] = some false := rfl
theorem isi_none_str  : isiAny (.none) [.str] = some false := rfl
theorem isi_none_list  : isiAny (.none) [.list] = some false := rfl
theorem isi_none_tuple  : isiAny (.none) [.tuple] = some false := rfl
theorem isi_none_dict  : isiAny (.none) [.dict] = some false := rfl
theorem isi_bool_int {b : Bool} : isiAny (.bool b) [.int] = some true := rfl
theorem isi_bool_bool {b : Bool} : isiAny (.bool b) [.bool] = some true := rfl
theorem isi_bool_str {b : Bool} : isiAny (.bool b) [.str] = some false := rfl
theorem isi_bool_list {b : Bool} : isiAny (.bool b) [.list] = some false := rfl
theorem isi_bool_tuple {b : Bool} : isiAny (.bool b) [.tuple] = some false := rfl
theorem isi_bool_dict {b : Bool} : isiAny (.bool b) [.dict] = some false := rfl
theorem isi_int_int {i : Int} : isiAny (.int i) [.int] = some true := rfl
theorem isi_int_bool {i : Int} : isiAny (.int i) [.bool] = some false := rfl
theorem isi_int_str {i : Int} : isiAny (.int i) [.str] = some false := rfl
theorem isi_int_list {i : Int} : isiAny (.int i) [.list] = some false := rfl
theorem isi_int_tuple {i : Int} : isiAny (.int i) [.tuple] = some false := rfl
theorem isi_int_dict {i : Int} : isiAny (.int i) [.dict] = some false := rfl
theorem isi_str_int {x : Str} : isiAny (.str x) [.int] = some false := rfl
theorem isi_str_bool {x : Str} : isiAny (.str x) [.bool] = some false := rfl
theorem isi_str_str {x : Str} : isiAny (.str x) [.str] = some true := rfl
theorem isi_str_list {x : Str} : isiAny (.str x) [.list] = some false := rfl
theorem isi_str_tuple {x : Str} : isiAny (.str x) [.tuple] = some false := rfl
theorem isi_str_dict {x : Str} : isiAny (.str x) [.dict] = some false := rfl
theorem isi_list_int {l : List D} : isiAny (.list l) [.int] = some false := rfl
theorem isi_list_bool {l : List D} : isiAny (.list l) [.bool] = some false := rfl
theorem isi_list_str {l : List D} : isiAny (.list l) [.str] = some false := rfl
theorem isi_list_list {l : List D} : isiAny (.list l) [.list] = some true := rfl
theorem isi_list_tuple {l : List D} : isiAny (.list l) [.tuple] = some false := rfl
theorem isi_list_dict {l : List D} : isiAny (.list l) [.dict] = some false := rfl
theorem isi_tuple_int {l : List D} : isiAny (.tuple l) [.int] = some false := rfl
theorem isi_tuple_bool {l : List D} : isiAny (.tuple l) [.bool] = some false := rfl
theorem isi_tuple_str {l : List D} : isiAny (.tuple l) [.str] = some false := rfl
theorem isi_tuple_list {l : List D} : isiAny (.tuple l) [.list] = some false := rfl
theorem isi_tuple_tuple {l : List D} : isiAny (.tuple l) [.tuple] = some true := rfl
theorem isi_tuple_dict {l : List D} : isiAny (.tuple l) [.dict] = some false := rfl
theorem e10_64 : (Int.natAbs 10 < 18446744073709551616) = True := eq_true (by decide)
theorem sl_eq : sizeLine = 16777216 := by decide
/-- a block cut behind its first statement -/
theorem WB_cut {C : Cfg} {env : Ev} {s : CS} {b : CB} {Q : Fl → Ev → Prop} (M : Ev → Prop) (h1 : WS C s env (nextQ M Q)) (h2 : ∀ e, M e → WB C b e Q) : WB C (.cons s b) env Q := by
  refine WB_cons.mpr ?_
  unfold WS at h1 ⊢
  refine h1.mono fun p h => ?_
  obtain ⟨f, e⟩ := p
  cases f with
  | next => exact h2 _ h
  | _ => exact h
end EV

set_option Elab.async false
set_option linter.all false
set_option maxRecDepth 100000
set_option maxHeartbeats 2000000
/-! ST1: rows of straight maps and bends over any field, worked out on least rows (own work). -/
namespace EV
namespace ST
open Lean.Grind
variable {K : Type} [Field K]
structure Mp (K : Type) where
  a : K
  b : K
  c : K
  d : K
  e : K
  f : K
  deriving DecidableEq
structure Bd (K : Type) where
  c2 : K
  c3 : K
  c4 : K
  c5 : K
  c6 : K
  deriving DecidableEq
def Mp.det (m : Mp K) : K := m.a * m.e - m.b * m.d
def Mp.one : Mp K := ⟨1, 0, 0, 0, 1, 0⟩
/-- m, then n -/
def Mp.thn (m n : Mp K) : Mp K := ⟨n.a * m.a + n.b * m.d, n.a * m.b + n.b * m.e, n.a * m.c + n.b * m.f + n.c, n.d * m.a + n.e * m.d, n.d * m.b + n.e * m.e, n.d * m.c + n.e * m.f + n.f⟩
def Mp.inv (m : Mp K) : Mp K :=
  let k := m.det⁻¹
  ⟨m.e * k, -(m.b * k), -(m.e * k * m.c + -(m.b * k) * m.f), -(m.d * k), m.a * k, -(-(m.d * k) * m.c + m.a * k * m.f)⟩
def tm (e : K) : Mp K := ⟨0, 1, 0, 1, e, 0⟩
theorem thn_assoc (m n o : Mp K) : (m.thn n).thn o = m.thn (n.thn o) := by
  simp only [Mp.thn, Mp.mk.injEq]
  refine ⟨?_, ?_, ?_, ?_, ?_, ?_⟩ <;> grind
theorem one_thn (m : Mp K) : Mp.one.thn m = m := by
  cases m
  simp only [Mp.thn, Mp.one, Mp.mk.injEq]
  refine ⟨?_, ?_, ?_, ?_, ?_, ?_⟩ <;> grind
theorem thn_one (m : Mp K) : m.thn Mp.one = m := by
  cases m
  simp only [Mp.thn, Mp.one, Mp.mk.injEq]
  refine ⟨?_, ?_, ?_, ?_, ?_, ?_⟩ <;> grind
theorem det_thn (m n : Mp K) : (m.thn n).det = m.det * n.det := by
  simp only [Mp.thn, Mp.det]
  grind
theorem det_one : (Mp.one : Mp K).det = 1 := by
  simp only [Mp.one, Mp.det]
  grind
theorem mul_ne {a b : K} (ha : a ≠ 0) (hb : b ≠ 0) : a * b ≠ 0 := fun h => by
  have := Field.mul_inv_cancel ha
  have h2 : a⁻¹ * (a * b) = b := by grind
  rw [h] at h2
  exact hb (by grind)
theorem det_ne {m n : Mp K} (hm : m.det ≠ 0) (hn : n.det ≠ 0) : (m.thn n).det ≠ 0 := by
  rw [det_thn]
  exact mul_ne hm hn
theorem thn_inv {m : Mp K} (h : m.det ≠ 0) : m.thn m.inv = Mp.one := by
  have k := Field.mul_inv_cancel h
  obtain ⟨a, b, c, d, e, f⟩ := m
  simp only [Mp.thn, Mp.inv, Mp.one, Mp.det, Mp.mk.injEq] at k ⊢
  generalize (a * e - b * d)⁻¹ = i at *
  refine ⟨?_, ?_, ?_, ?_, ?_, ?_⟩ <;> grind
theorem inv_thn {m : Mp K} (h : m.det ≠ 0) : m.inv.thn m = Mp.one := by
  have k := Field.mul_inv_cancel h
  obtain ⟨a, b, c, d, e, f⟩ := m
  simp only [Mp.thn, Mp.inv, Mp.one, Mp.det, Mp.mk.injEq] at k ⊢
  generalize (a * e - b * d)⁻¹ = i at *
  refine ⟨?_, ?_, ?_, ?_, ?_, ?_⟩ <;> grind
theorem one_ne : (1 : K) ≠ 0 := fun h => Field.zero_ne_one h.symm
theorem det_inv {m : Mp K} (h : m.det ≠ 0) : m.inv.det ≠ 0 := fun z => by
  have := congrArg Mp.det (thn_inv h)
  rw [det_thn, z, det_one] at this
  exact one_ne (K := K) (by grind)
theorem det_tm (e : K) : (tm e).det ≠ 0 := by
  simp only [tm, Mp.det]
  intro h
  exact one_ne (K := K) (by grind)
/-! ### bends -/
def Bd.zero : Bd K := ⟨0, 0, 0, 0, 0⟩
def Bd.add (p q : Bd K) : Bd K := ⟨p.c2 + q.c2, p.c3 + q.c3, p.c4 + q.c4, p.c5 + q.c5, p.c6 + q.c6⟩
def Bd.neg (p : Bd K) : Bd K := ⟨-p.c2, -p.c3, -p.c4, -p.c5, -p.c6⟩
def Bd.by (k : K) (p : Bd K) : Bd K := ⟨k * p.c2, k * p.c3, k * p.c4, k * p.c5, k * p.c6⟩
/-- p with e y + f in the place of y: the numbers 0, 1, and the others -/
def Bd.s0 (f : K) (p : Bd K) : K := p.c2 * f ^ 2 + p.c3 * f ^ 3 + p.c4 * f ^ 4 + p.c5 * f ^ 5 + p.c6 * f ^ 6
def Bd.s1 (e f : K) (p : Bd K) : K := e * (2 * p.c2 * f + 3 * p.c3 * f ^ 2 + 4 * p.c4 * f ^ 3 + 5 * p.c5 * f ^ 4 + 6 * p.c6 * f ^ 5)
def Bd.hi (e f : K) (p : Bd K) : Bd K := ⟨e ^ 2 * (p.c2 + 3 * p.c3 * f + 6 * p.c4 * f ^ 2 + 10 * p.c5 * f ^ 3 + 15 * p.c6 * f ^ 4),
  e ^ 3 * (p.c3 + 4 * p.c4 * f + 10 * p.c5 * f ^ 2 + 20 * p.c6 * f ^ 3), e ^ 4 * (p.c4 + 5 * p.c5 * f + 15 * p.c6 * f ^ 2), e ^ 5 * (p.c5 + 6 * p.c6 * f), e ^ 6 * p.c6⟩
/-- a bend behind a map with d = 0 is a bend, then such a map -/
def bt (m : Mp K) (p : Bd K) : Bd K × Mp K := ((p.hi m.e m.f).by m.a⁻¹, ⟨m.a, m.b + p.s1 m.e m.f, m.c + p.s0 m.f, m.d, m.e, m.f⟩)
theorem inv_mul' {a b : K} (ha : a ≠ 0) (hb : b ≠ 0) : (a * b)⁻¹ = b⁻¹ * a⁻¹ := by
  have h1 := Field.mul_inv_cancel ha
  have h2 := Field.mul_inv_cancel hb
  have h3 := Field.mul_inv_cancel (mul_ne ha hb)
  have h4 : (b⁻¹ * a⁻¹) * ((a * b) * (a * b)⁻¹) = (a * b)⁻¹ := by grind
  rw [h3] at h4
  rw [← h4]
  grind
theorem bt_thn {m n : Mp K} (hm : m.d = 0) (hn : n.d = 0) (m1 : m.a ≠ 0) (n1 : n.a ≠ 0) (p : Bd K) :
    bt (m.thn n) p = ((bt m (bt n p).1).1, (bt m (bt n p).1).2.thn (bt n p).2) := by
  obtain ⟨a, b, c, d, e, f⟩ := m
  obtain ⟨a', b', c', d', e', f'⟩ := n
  simp only at hm hn m1 n1
  subst hm hn
  have h1 := Field.mul_inv_cancel m1
  have h2 := Field.mul_inv_cancel n1
  have h3 := inv_mul' n1 m1
  simp only [bt, Mp.thn, Prod.mk.injEq, Bd.by, Bd.hi, Bd.s0, Bd.s1, Bd.mk.injEq, Mp.mk.injEq]
  have e0 : a' * a + b' * 0 = a' * a := by grind
  rw [e0, h3]
  generalize a⁻¹ = i at *
  generalize a'⁻¹ = i' at *
  refine ⟨⟨?_, ?_, ?_, ?_, ?_⟩, ?_, ?_, ?_, ?_, ?_, ?_⟩
  all_goals grind
theorem Bd.add_assoc (p q r : Bd K) : (p.add q).add r = p.add (q.add r) := by
  simp only [Bd.add, Bd.mk.injEq]
  refine ⟨?_, ?_, ?_, ?_, ?_⟩ <;> grind
theorem Bd.add_comm (p q : Bd K) : p.add q = q.add p := by
  simp only [Bd.add, Bd.mk.injEq]
  refine ⟨?_, ?_, ?_, ?_, ?_⟩ <;> grind
theorem Bd.add_zero (p : Bd K) : p.add Bd.zero = p := by
  cases p
  simp only [Bd.add, Bd.zero, Bd.mk.injEq]
  refine ⟨?_, ?_, ?_, ?_, ?_⟩ <;> grind
theorem Bd.zero_add (p : Bd K) : Bd.zero.add p = p := by rw [Bd.add_comm, Bd.add_zero]
theorem Bd.add_neg (p : Bd K) : p.add p.neg = Bd.zero := by
  simp only [Bd.add, Bd.neg, Bd.zero, Bd.mk.injEq]
  refine ⟨?_, ?_, ?_, ?_, ?_⟩ <;> grind
theorem Bd.neg_ne {p : Bd K} (h : p ≠ Bd.zero) : p.neg ≠ Bd.zero := fun z => by
  have := Bd.add_neg p
  rw [z, Bd.add_zero] at this
  exact h this
/-- additive: the bend found, the map behind it -/
theorem bt_add (m : Mp K) (p q : Bd K) : (bt m (p.add q)).1 = (bt m p).1.add (bt m q).1 ∧ (bt m (p.add q)).2 = (bt (bt m p).2 q).2 ∧ (bt (bt m p).2 q).1 = (bt m q).1 := by
  simp only [bt, Bd.add, Bd.by, Bd.hi, Bd.s0, Bd.s1, Bd.mk.injEq, Mp.mk.injEq, and_true, true_and]
  refine ⟨⟨?_, ?_, ?_, ?_, ?_⟩, ?_, ?_⟩ <;> grind
theorem bt_zero (m : Mp K) : bt m Bd.zero = (Bd.zero, m) := by
  obtain ⟨a, b, c, d, e, f⟩ := m
  simp only [bt, Bd.zero, Bd.by, Bd.hi, Bd.s0, Bd.s1, Bd.mk.injEq, Mp.mk.injEq, and_true, true_and, Prod.mk.injEq]
  refine ⟨⟨?_, ?_, ?_, ?_, ?_⟩, ?_, ?_⟩ <;> grind
theorem bt_one (p : Bd K) : bt Mp.one p = (p, Mp.one) := by
  have h : (1 : K) * 1⁻¹ = 1 := Field.mul_inv_cancel one_ne
  obtain ⟨c2, c3, c4, c5, c6⟩ := p
  simp only [bt, Mp.one, Bd.by, Bd.hi, Bd.s0, Bd.s1, Bd.mk.injEq, Mp.mk.injEq, and_true, true_and, Prod.mk.injEq]
  generalize (1 : K)⁻¹ = i at *
  refine ⟨⟨?_, ?_, ?_, ?_, ?_⟩, ?_, ?_⟩ <;> grind
/-- lower maps: d is 0, they can be undone -/
structure Low (m : Mp K) : Prop where
  d : m.d = 0
  a : m.a ≠ 0
  e : m.e ≠ 0
theorem Low.det {m : Mp K} (h : Low m) : m.det ≠ 0 := by
  have := mul_ne h.a h.e
  have e : m.det = m.a * m.e := by
    simp only [Mp.det, h.d]
    grind
  rw [e]; exact this
theorem low_of {m : Mp K} (hd : m.d = 0) (h : m.det ≠ 0) : Low m := by
  simp only [Mp.det, hd] at h
  refine ⟨hd, fun z => h ?_, fun z => h ?_⟩
  · rw [z]; grind
  · rw [z]; grind
theorem Low.thn {m n : Mp K} (hm : Low m) (hn : Low n) : Low (m.thn n) := by
  refine low_of ?_ (det_ne hm.det hn.det)
  simp only [Mp.thn, hm.d, hn.d]
  grind
theorem Low.bt {m : Mp K} (h : Low m) (p : Bd K) : Low (bt m p).2 := ⟨h.d, h.a, h.e⟩
theorem Low.one : Low (Mp.one : Mp K) := ⟨rfl, one_ne, one_ne⟩
/-- the way back: a bend made by one that is not zero is not zero -/
theorem bt_ne {m : Mp K} (h : Low m) {p : Bd K} (hp : p ≠ Bd.zero) : (ST.bt m p).1 ≠ Bd.zero := fun z => by
  have hi : Low m.inv := by
    refine low_of ?_ (det_inv h.det)
    simp only [Mp.inv, h.d]
    grind
  have h1 := bt_thn hi.d h.d hi.a h.a p
  rw [inv_thn h.det, bt_one, z, bt_zero] at h1
  exact hp (congrArg Prod.fst h1)
section
variable [DecidableEq K]
/-- the turn ahead of a lower map, that map -/
def rest (m : Mp K) (r : K) : Mp K := ⟨m.b - m.a * r, m.a, m.c, 0, m.d, m.f⟩
def split (m : Mp K) : Option K × Mp K := if m.d = 0 then (none, m) else (some (m.e * m.d⁻¹), rest m (m.e * m.d⁻¹))
def turnd (t : Option K) (m : Mp K) : Mp K := match t with
  | none => m
  | some e => (tm e).thn m
theorem turnd_split {m : Mp K} : turnd (split m).1 (split m).2 = m := by
  unfold split
  split
  · rfl
  · rename_i h
    have k := Field.mul_inv_cancel h
    obtain ⟨a, b, c, d, e, f⟩ := m
    simp only at h k
    simp only [turnd, tm, rest, Mp.thn, Mp.mk.injEq]
    generalize d⁻¹ = i at *
    refine ⟨?_, ?_, ?_, ?_, ?_, ?_⟩ <;> grind
theorem det_turnd {t : Option K} {m : Mp K} (h : m.det ≠ 0) : (turnd t m).det ≠ 0 := by
  cases t with
  | none => exact h
  | some e => exact det_ne (det_tm e) h
theorem split_low {m : Mp K} (h : m.det ≠ 0) : Low (split m).2 := by
  have e := turnd_split (m := m)
  refine low_of ?_ fun z => h ?_
  · unfold split
    split
    · assumption
    · rfl
  · rw [← e]
    cases (split m).1 with
    | none => exact z
    | some r =>
      show ((tm r).thn (split m).2).det = 0
      rw [det_thn, z]
      grind
theorem split_turnd {t : Option K} {m : Mp K} (h : Low m) : split (turnd t m) = (t, m) := by
  cases t with
  | none =>
    unfold split
    rw [if_pos (show (turnd none m).d = 0 from h.d)]
    rfl
  | some r =>
    have k := Field.mul_inv_cancel h.e
    have hd := h.d
    have he := h.e
    obtain ⟨a, b, c, d, e, f⟩ := m
    simp only at hd k he
    subst hd
    have e1 : (turnd (some r) ⟨a, b, c, 0, e, f⟩ : Mp K) = ⟨b, a + b * r, c, e, e * r, f⟩ := by
      simp only [turnd, tm, Mp.thn, Mp.mk.injEq]
      refine ⟨?_, ?_, ?_, ?_, ?_, ?_⟩ <;> grind
    rw [e1]
    unfold split
    rw [if_neg (show ¬ e = 0 from he)]
    have e2 : e * r * e⁻¹ = r := by grind
    simp only [rest, e2, Prod.mk.injEq, Mp.mk.injEq, true_and, and_true]
    grind
theorem split_thn {m n : Mp K} (hm : m.det ≠ 0) (hn : Low n) : split (m.thn n) = ((split m).1, (split m).2.thn n) := by
  have e : m.thn n = turnd (split m).1 ((split m).2.thn n) := by
    have z := turnd_split (m := m)
    cases h : (split m).1 with
    | none =>
      rw [h] at z
      exact congrArg (Mp.thn · n) z.symm
    | some r =>
      rw [h] at z
      show m.thn n = (tm r).thn ((split m).2.thn n)
      rw [← thn_assoc]
      exact congrArg (Mp.thn · n) z.symm
  rw [e, split_turnd ((split_low hm).thn hn)]
theorem turnd_thn {t : Option K} {m n : Mp K} : (turnd t m).thn n = turnd t (m.thn n) := by
  cases t with
  | none => rfl
  | some e => exact thn_assoc _ _ _
/-! ### least rows -/
/-- the bends with the turns ahead of them, the last bend first; the last map -/
structure Stp (K : Type) where
  st : List (Bd K × Option K)
  last : Mp K
inductive Pc (K : Type) where
  | str (m : Mp K) | bnd (p : Bd K)
def push (st : List (Bd K × Option K)) (r : Option K) (p : Bd K) (m : Mp K) : Stp K := match r, st with
  | none, (b, t) :: st => if b.add p = Bd.zero then ⟨st, turnd t m⟩ else ⟨(b.add p, t) :: st, m⟩
  | r, st => ⟨(p, r) :: st, m⟩
def act (s : Stp K) : Pc K → Stp K
  | .str m => ⟨s.st, s.last.thn m⟩
  | .bnd p => push s.st (split s.last).1 (bt (split s.last).2 p).1 (bt (split s.last).2 p).2
def acts (s : Stp K) (r : List (Pc K)) : Stp K := r.foldl act s
def Pc.ok : Pc K → Prop
  | .str m => m.det ≠ 0
  | .bnd p => p ≠ Bd.zero
/-- no bend is zero; only the first bend may have no turn ahead -/
def StOk : List (Bd K × Option K) → Prop
  | [] => True
  | (b, t) :: st => b ≠ Bd.zero ∧ (t = none → st = []) ∧ StOk st
structure Stp.Ok (s : Stp K) : Prop where
  st : StOk s.st
  last : s.last.det ≠ 0
theorem push_ok {st : List (Bd K × Option K)} {r : Option K} {p : Bd K} {m : Mp K} (h : StOk st) (hp : p ≠ Bd.zero) (hm : m.det ≠ 0) : (push st r p m).Ok := by
  unfold push
  split
  · rename_i b t st
    obtain ⟨h1, h2, h3⟩ := h
    split
    · exact ⟨h3, det_turnd hm⟩
    · rename_i hz
      exact ⟨⟨hz, h2, h3⟩, hm⟩
  · rename_i hn
    refine ⟨⟨hp, fun hr => ?_, h⟩, hm⟩
    cases st with
    | nil => rfl
    | cons x st => exact absurd rfl (hn x.1 x.2 st hr)
theorem act_ok {s : Stp K} (h : s.Ok) {p : Pc K} (hp : p.ok) : (act s p).Ok := by
  cases p with
  | str m => exact ⟨h.st, det_ne h.last hp⟩
  | bnd p => exact push_ok h.st (bt_ne (split_low h.last) hp) ((split_low h.last).bt p).det
theorem acts_ok {r : List (Pc K)} : ∀ {s : Stp K}, s.Ok → (∀ p ∈ r, p.ok) → (acts s r).Ok := by
  induction r with
  | nil => exact fun h _ => h
  | cons p r ih => exact fun h hr => ih (act_ok h (hr p List.mem_cons_self)) fun q hq => hr q (List.mem_cons_of_mem _ hq)
theorem acts_app {s : Stp K} {r u : List (Pc K)} : acts s (r ++ u) = acts (acts s r) u := List.foldl_append
/-- both rows do the same to all steps -/
def Eqv (r u : List (Pc K)) : Prop := ∀ s : Stp K, s.Ok → acts s r = acts s u
theorem Eqv.refl {r : List (Pc K)} : Eqv r r := fun _ _ => rfl
theorem Eqv.symm {r u : List (Pc K)} (h : Eqv r u) : Eqv u r := fun s hs => (h s hs).symm
theorem Eqv.trans {r u v : List (Pc K)} (h : Eqv r u) (g : Eqv u v) : Eqv r v := fun s hs => (h s hs).trans (g s hs)
theorem Eqv.app {r u x y : List (Pc K)} (h : Eqv r u) (g : Eqv x y) (hr : ∀ p ∈ r, p.ok) : Eqv (r ++ x) (u ++ y) := fun s hs => by
  rw [acts_app, acts_app, ← h s hs]
  exact g _ (acts_ok hs hr)
theorem eqv_str (m n : Mp K) : Eqv [.str m, .str n] [.str (m.thn n)] := fun s _ => by
  simp only [acts, List.foldl_cons, List.foldl_nil, act, thn_assoc]
theorem eqv_one : Eqv [Pc.str (Mp.one : Mp K)] [] := fun s _ => by
  simp only [acts, List.foldl_cons, List.foldl_nil, act, thn_one]
theorem push_thn {st : List (Bd K × Option K)} {r : Option K} {p : Bd K} {m n : Mp K} : push st r p (m.thn n) = act (push st r p m) (.str n) := by
  unfold push act
  split
  · split
    · simp only [turnd_thn]
    · rfl
  · rfl
theorem eqv_bt {m : Mp K} (hm : Low m) (p : Bd K) : Eqv [.str m, .bnd p] [.bnd (bt m p).1, .str (bt m p).2] := fun s hs => by
  have h1 := split_thn hs.last hm
  have h2 := split_low hs.last
  have h3 := bt_thn h2.d hm.d h2.a hm.a p
  show act (act s (.str m)) (.bnd p) = act (act s (.bnd (bt m p).1)) (.str (bt m p).2)
  show push s.st (split (s.last.thn m)).1 (bt (split (s.last.thn m)).2 p).1 (bt (split (s.last.thn m)).2 p).2 = act (push _ _ _ _) _
  rw [h1, h3]
  exact push_thn
theorem push_some {st : List (Bd K × Option K)} {t : Option K} {p : Bd K} {m : Mp K} (h : t = none → st = []) : push st t p m = ⟨(p, t) :: st, m⟩ := by
  cases t with
  | none => rw [h rfl]; rfl
  | some e => rfl
theorem push_cons {st : List (Bd K × Option K)} {b p : Bd K} {t : Option K} {m : Mp K} : push ((b, t) :: st) none p m = if b.add p = Bd.zero then ⟨st, turnd t m⟩ else ⟨(b.add p, t) :: st, m⟩ := rfl
theorem eqv_add (p q : Bd K) (hq : q ≠ Bd.zero) : Eqv [.bnd p, .bnd q] (if p.add q = Bd.zero then [] else [.bnd (p.add q)]) := fun s hs => by
  obtain ⟨st, L⟩ := s
  have hst : StOk st := hs.st
  have hL : L.det ≠ 0 := hs.last
  have low := split_low hL
  have eL := turnd_split (m := L)
  show act (act ⟨st, L⟩ (.bnd p)) (.bnd q) = acts ⟨st, L⟩ (if p.add q = Bd.zero then [] else [.bnd (p.add q)])
  have R : acts ⟨st, L⟩ (if p.add q = Bd.zero then [] else [.bnd (p.add q)]) = if p.add q = Bd.zero then ⟨st, L⟩ else push st (split L).1 (bt (split L).2 (p.add q)).1 (bt (split L).2 (p.add q)).2 := by
    split <;> rfl
  rw [R]
  show act (push st (split L).1 (bt (split L).2 p).1 (bt (split L).2 p).2) (.bnd q) = _
  generalize (split L).1 = r at *
  generalize (split L).2 = rs at *
  obtain ⟨a1, a2, a3⟩ := bt_add rs p q
  have z : p.add q = Bd.zero ↔ (bt rs p).1.add (bt rs q).1 = Bd.zero := by
    rw [← a1]
    constructor
    · intro h
      rw [h, bt_zero]
    · intro h
      exact Decidable.byContradiction fun g => bt_ne low g h
  have z2 : p.add q = Bd.zero → (bt (bt rs p).2 q).2 = rs := fun h => by rw [← a2, h, bt_zero]
  have nq : (bt rs q).1 ≠ Bd.zero := bt_ne low hq
  have low1 : Low (bt rs p).2 := low.bt p
  rw [a1, a2]
  have act1 : ∀ st' t, act ⟨st', turnd t (bt rs p).2⟩ (.bnd q) = push st' t (bt rs q).1 (bt (bt rs p).2 q).2 := fun st' t => by
    show push st' (split (turnd t (bt rs p).2)).1 (bt (split (turnd t (bt rs p).2)).2 q).1 (bt (split (turnd t (bt rs p).2)).2 q).2 = _
    rw [split_turnd low1, a3]
  have act0 : ∀ st', act ⟨st', (bt rs p).2⟩ (.bnd q) = push st' none (bt rs q).1 (bt (bt rs p).2 q).2 := fun st' => act1 st' none
  generalize (bt (bt rs p).2 q).2 = m2 at *
  generalize (bt rs p).2 = m1 at *
  generalize (bt rs p).1 = f1 at *
  generalize (bt rs q).1 = f2 at *
  by_cases hr : r = none ∧ st ≠ []
  · obtain ⟨rfl, hne⟩ := hr
    cases st with
    | nil => exact absurd rfl hne
    | cons x st =>
      obtain ⟨b, t⟩ := x
      obtain ⟨h1, h2, h3⟩ := hst
      have eL : rs = L := eL
      rw [push_cons]
      by_cases h4 : b.add f1 = Bd.zero
      · rw [if_pos h4, act1, push_some h2]
        have e2 : b.add (f1.add f2) = f2 := by rw [← Bd.add_assoc, h4, Bd.zero_add]
        by_cases h5 : p.add q = Bd.zero
        · rw [if_pos h5, z2 h5, eL]
          have h6 := z.mp h5
          rw [h6, Bd.add_zero] at e2
          rw [e2]
        · rw [if_neg h5, push_cons, e2, if_neg nq]
      · rw [if_neg h4, act0, push_cons, Bd.add_assoc]
        by_cases h5 : p.add q = Bd.zero
        · rw [if_pos h5, z2 h5, eL, z.mp h5, Bd.add_zero, if_neg h1]
        · rw [if_neg h5, push_cons]
  · have g : r = none → st = [] := fun h => Decidable.byContradiction fun k => hr ⟨h, k⟩
    rw [push_some g, act0, push_cons]
    by_cases h5 : p.add q = Bd.zero
    · rw [if_pos h5, if_pos (z.mp h5), z2 h5, eL]
    · rw [if_neg h5, if_neg fun h => h5 (z.mpr h), push_some g]
/-! ### rows of steps -/
def turnR (t : Option K) : List (Pc K) := match t with
  | none => []
  | some e => [.str (tm e)]
def stR : List (Bd K × Option K) → List (Pc K)
  | [] => []
  | (b, t) :: st => stR st ++ (turnR t ++ [.bnd b])
def row (s : Stp K) : List (Pc K) := stR s.st ++ [.str s.last]
def RowOk (r : List (Pc K)) : Prop := ∀ p ∈ r, p.ok
theorem RowOk.app {r u : List (Pc K)} (h : RowOk r) (g : RowOk u) : RowOk (r ++ u) := fun p hp => (List.mem_append.mp hp).elim (h p) (g p)
theorem RowOk.left {r u : List (Pc K)} (h : RowOk (r ++ u)) : RowOk r := fun p hp => h p (List.mem_append_left _ hp)
theorem RowOk.right {r u : List (Pc K)} (h : RowOk (r ++ u)) : RowOk u := fun p hp => h p (List.mem_append_right _ hp)
theorem RowOk.nil : RowOk ([] : List (Pc K)) := fun p hp => by cases hp
theorem RowOk.one {p : Pc K} (h : p.ok) : RowOk [p] := fun q hq => by rw [List.mem_singleton.mp hq]; exact h
theorem RowOk.cons {p : Pc K} {r : List (Pc K)} (h : p.ok) (g : RowOk r) : RowOk (p :: r) := fun q hq => by
  rcases List.mem_cons.mp hq with rfl | hq
  · exact h
  · exact g q hq
theorem turnR_ok (t : Option K) : RowOk (turnR t) := by
  cases t with
  | none => exact .nil
  | some e => exact .one (det_tm e)
theorem stR_ok : ∀ {st : List (Bd K × Option K)}, StOk st → RowOk (stR st)
  | [], _ => .nil
  | (b, t) :: st, ⟨h1, _, h3⟩ => (stR_ok h3).app ((turnR_ok t).app (.one h1))
theorem row_ok {s : Stp K} (h : s.Ok) : RowOk (row s) := (stR_ok h.st).app (.one h.last)
theorem Eqv.left {r u : List (Pc K)} (x : List (Pc K)) (hx : RowOk x) (h : Eqv r u) : Eqv (x ++ r) (x ++ u) := Eqv.app .refl h hx
theorem Eqv.right {r u : List (Pc K)} (x : List (Pc K)) (hr : RowOk r) (h : Eqv r u) : Eqv (r ++ x) (u ++ x) := Eqv.app h .refl hr
theorem eqv_turnd (t : Option K) (m : Mp K) : Eqv (turnR t ++ [.str m]) [.str (turnd t m)] := by
  cases t with
  | none => exact .refl
  | some e => exact eqv_str _ _
/-- a turn, a map, a bend: as push has it -/
theorem push_row {st : List (Bd K × Option K)} {r : Option K} {p : Bd K} {m : Mp K} (h : StOk st) (hp : p ≠ Bd.zero) : Eqv (row (push st r p m)) (stR st ++ (turnR r ++ [.bnd p]) ++ [.str m]) := by
  unfold push
  split
  · rename_i b t st
    obtain ⟨h1, h2, h3⟩ := h
    have a : Eqv (stR ((b, t) :: st) ++ (turnR none ++ [.bnd p]) ++ [.str m]) ((stR st ++ turnR t) ++ ((if b.add p = Bd.zero then [] else [.bnd (b.add p)]) ++ [.str m])) := by
      have e : stR ((b, t) :: st) ++ (turnR none ++ [.bnd p]) ++ [.str m] = (stR st ++ turnR t) ++ ([.bnd b, .bnd p] ++ [.str m]) := by simp [stR, turnR]
      rw [e]
      exact ((eqv_add b p hp).right _ (.cons (show (Pc.bnd b).ok from h1) (.one (show (Pc.bnd p).ok from hp)))).left _ ((stR_ok h3).app (turnR_ok t))
    split
    · rename_i hz
      rw [if_pos hz] at a
      refine Eqv.trans ?_ a.symm
      have e : (stR st ++ turnR t) ++ ([] ++ [Pc.str m]) = stR st ++ (turnR t ++ [.str m]) := by simp
      rw [e]
      exact (eqv_turnd t m).symm.left _ (stR_ok h3)
    · rename_i hz
      rw [if_neg hz] at a
      refine Eqv.trans ?_ a.symm
      have e : (stR st ++ turnR t) ++ ([Pc.bnd (b.add p)] ++ [Pc.str m]) = row ⟨(b.add p, t) :: st, m⟩ := by simp [row, stR]
      rw [e]
      exact .refl
  · exact .refl
theorem row_act {s : Stp K} (h : s.Ok) {p : Pc K} (hp : p.ok) : Eqv (row (act s p)) (row s ++ [p]) := by
  cases p with
  | str m =>
    have e : row s ++ [Pc.str m] = stR s.st ++ [.str s.last, .str m] := by simp [row]
    rw [e]
    exact (eqv_str _ _).symm.left _ (stR_ok h.st)
  | bnd p =>
    have low := split_low h.last
    have a := push_row (r := (split s.last).1) (m := (bt (split s.last).2 p).2) h.st (bt_ne low hp)
    refine Eqv.trans a ?_
    have e1 : stR s.st ++ (turnR (split s.last).1 ++ [Pc.bnd (bt (split s.last).2 p).1]) ++ [Pc.str (bt (split s.last).2 p).2] = (stR s.st ++ turnR (split s.last).1) ++ [Pc.bnd (bt (split s.last).2 p).1, Pc.str (bt (split s.last).2 p).2] := by simp
    have e2 : row s ++ [Pc.bnd p] = stR s.st ++ ([.str s.last] ++ [Pc.bnd p]) := by simp [row]
    rw [e1, e2]
    refine Eqv.trans ((eqv_bt low p).symm.left _ ((stR_ok h.st).app (turnR_ok _))) ?_
    have e3 : (stR s.st ++ turnR (split s.last).1) ++ [Pc.str (split s.last).2, Pc.bnd p] = stR s.st ++ ((turnR (split s.last).1 ++ [.str (split s.last).2]) ++ [.bnd p]) := by simp
    rw [e3]
    have e4 := eqv_turnd (split s.last).1 (split s.last).2
    rw [turnd_split] at e4
    exact (e4.right _ ((turnR_ok _).app (.one (show (Pc.str (split s.last).2).ok from low.det)))).left _ (stR_ok h.st)
theorem row_acts {r : List (Pc K)} : ∀ {s : Stp K}, s.Ok → RowOk r → Eqv (row (acts s r)) (row s ++ r) := by
  induction r with
  | nil => exact fun _ _ => by rw [List.append_nil]; exact .refl
  | cons p r ih =>
    intro s h hr
    have hp := hr p List.mem_cons_self
    have hr2 : RowOk r := fun q hq => hr q (List.mem_cons_of_mem _ hq)
    have a := ih (act_ok h hp) hr2
    have e : row s ++ p :: r = (row s ++ [p]) ++ r := by simp
    rw [e]
    exact a.trans ((row_act h hp).right _ (row_ok (act_ok h hp)))
def nil : Stp K := ⟨[], Mp.one⟩
theorem nil_ok : (nil : Stp K).Ok := ⟨trivial, by rw [show (nil : Stp K).last = Mp.one from rfl, det_one]; exact one_ne⟩
theorem row_nil : Eqv (row (nil : Stp K)) [] := eqv_one
/-- the step that a row makes -/
def mk (r : List (Pc K)) : Stp K := acts nil r
theorem mk_ok {r : List (Pc K)} (h : RowOk r) : (mk r).Ok := acts_ok nil_ok h
theorem row_mk {r : List (Pc K)} (h : RowOk r) : Eqv (row (mk r)) r := (row_acts nil_ok h).trans (row_nil.right r (row_ok nil_ok))
theorem mk_eqv {r u : List (Pc K)} (h : Eqv r u) : mk r = mk u := h nil nil_ok
theorem eqv_mk {r u : List (Pc K)} (hr : RowOk r) (hu : RowOk u) (h : mk r = mk u) : Eqv r u := (row_mk hr).symm.trans (by rw [h]; exact row_mk hu)
theorem act_nf {st : List (Bd K × Option K)} {t : Option K} {b : Bd K} (h : t = none → st = []) : acts ⟨st, Mp.one⟩ (turnR t ++ [.bnd b]) = ⟨(b, t) :: st, Mp.one⟩ := by
  have e : acts ⟨st, Mp.one⟩ (turnR t) = ⟨st, turnd t Mp.one⟩ := by
    cases t with
    | none => rfl
    | some e =>
      show (⟨st, Mp.one.thn (tm e)⟩ : Stp K) = ⟨st, (tm e).thn Mp.one⟩
      rw [one_thn, thn_one]
  rw [acts_app, e]
  show push st (split (turnd t Mp.one)).1 (bt (split (turnd t Mp.one)).2 b).1 (bt (split (turnd t Mp.one)).2 b).2 = _
  rw [split_turnd Low.one, bt_one, push_some h]
theorem mk_st : ∀ {st : List (Bd K × Option K)}, StOk st → mk (stR st) = ⟨st, Mp.one⟩
  | [], _ => rfl
  | (b, t) :: st, ⟨_, h2, h3⟩ => by
    show acts nil (stR st ++ (turnR t ++ [.bnd b])) = _
    rw [acts_app, show acts nil (stR st) = mk (stR st) from rfl, mk_st h3]
    exact act_nf h2
/-- a step's own row makes it again -/
theorem mk_row {s : Stp K} (h : s.Ok) : mk (row s) = s := by
  show acts nil (stR s.st ++ [.str s.last]) = s
  rw [acts_app, show acts nil (stR s.st) = mk (stR s.st) from rfl, mk_st h.st]
  show (⟨s.st, Mp.one.thn s.last⟩ : Stp K) = s
  rw [one_thn]
theorem acts_mk {s : Stp K} (h : s.Ok) (r : List (Pc K)) : acts s r = mk (row s ++ r) := by
  show _ = acts nil (row s ++ r)
  rw [acts_app, show acts nil (row s) = mk (row s) from rfl, mk_row h]
/-! ### undone -/
def Pc.inv : Pc K → Pc K
  | .str m => .str m.inv
  | .bnd p => .bnd p.neg
def bk (r : List (Pc K)) : List (Pc K) := r.reverse.map Pc.inv
theorem Pc.inv_ok {p : Pc K} (h : p.ok) : p.inv.ok := by
  cases p with
  | str m => exact det_inv h
  | bnd p => exact Bd.neg_ne h
theorem bk_ok {r : List (Pc K)} (h : RowOk r) : RowOk (bk r) := fun p hp => by
  obtain ⟨q, hq, rfl⟩ := List.mem_map.mp hp
  exact Pc.inv_ok (h q (List.mem_reverse.mp hq))
theorem bk_app (r u : List (Pc K)) : bk (r ++ u) = bk u ++ bk r := by simp [bk]
theorem bk_cons (p : Pc K) (r : List (Pc K)) : bk (p :: r) = bk r ++ [p.inv] := by simp [bk]
theorem Bd.neg_neg (p : Bd K) : p.neg.neg = p := by
  cases p
  simp only [Bd.neg, Bd.mk.injEq]
  refine ⟨?_, ?_, ?_, ?_, ?_⟩ <;> grind
theorem eqv_pc_inv {p : Pc K} (h : p.ok) : Eqv [p, p.inv] [] := by
  cases p with
  | str m =>
    refine (eqv_str m m.inv).trans ?_
    rw [thn_inv h]
    exact eqv_one
  | bnd p =>
    have := eqv_add p p.neg (Bd.neg_ne h)
    rw [if_pos (Bd.add_neg p)] at this
    exact this
theorem eqv_inv_pc {p : Pc K} (h : p.ok) : Eqv [p.inv, p] [] := by
  cases p with
  | str m =>
    refine (eqv_str m.inv m).trans ?_
    rw [inv_thn h]
    exact eqv_one
  | bnd p =>
    have := eqv_add p.neg p h
    rw [if_pos (by rw [Bd.add_comm, Bd.add_neg])] at this
    exact this
theorem eqv_bk : ∀ {r : List (Pc K)}, RowOk r → Eqv (r ++ bk r) []
  | [], _ => .refl
  | p :: r, h => by
    have hp := h p List.mem_cons_self
    have hr : RowOk r := fun q hq => h q (List.mem_cons_of_mem _ hq)
    rw [bk_cons]
    have e : p :: r ++ (bk r ++ [p.inv]) = [p] ++ ((r ++ bk r) ++ [p.inv]) := by simp
    rw [e]
    exact (((eqv_bk hr).right [p.inv] (hr.app (bk_ok hr))).left [p] (.one hp)).trans (eqv_pc_inv hp)
theorem bk_eqv : ∀ {r : List (Pc K)}, RowOk r → Eqv (bk r ++ r) []
  | [], _ => .refl
  | p :: r, h => by
    have hp := h p List.mem_cons_self
    have hr : RowOk r := fun q hq => h q (List.mem_cons_of_mem _ hq)
    rw [bk_cons]
    have e : bk r ++ [p.inv] ++ p :: r = bk r ++ ([p.inv, p] ++ r) := by simp
    rw [e]
    exact (((eqv_inv_pc hp).right r (.cons (Pc.inv_ok hp) (.one hp))).left (bk r) (bk_ok hr)).trans (bk_eqv hr)
theorem eqv_bk_of {r u : List (Pc K)} (hr : RowOk r) (hu : RowOk u) (h : Eqv r u) : Eqv (bk r) (bk u) := by
  have a : Eqv (bk r) (bk r ++ (u ++ bk u)) := by
    have := (eqv_bk hu).symm.left (bk r) (bk_ok hr)
    rw [List.append_nil] at this
    exact this
  have b : Eqv (bk r ++ (u ++ bk u)) ((bk r ++ r) ++ bk u) := by
    rw [List.append_assoc]
    exact (h.symm.right (bk u) hu).left (bk r) (bk_ok hr)
  exact a.trans (b.trans ((bk_eqv hr).right (bk u) ((bk_ok hr).app hr)))
end
end ST
end EV

set_option Elab.async false
set_option linter.all false
set_option maxRecDepth 100000
set_option maxHeartbeats 2000000
/-! ST2: the group of steps, told by bundled rows (own work). -/
namespace EV
namespace ST
open Lean.Grind
variable {K : Type} [Field K] [DecidableEq K]
structure G (K : Type) [Field K] [DecidableEq K] where
  s : Stp K
  ok : s.Ok
structure R (K : Type) [Field K] where
  r : List (Pc K)
  ok : RowOk r
theorem G.ext {a b : G K} (h : a.s = b.s) : a = b := by
  cases a; cases b
  simp only at h
  subst h
  rfl
def T (a : G K) (r : R K) : G K := ⟨acts a.s r.r, acts_ok a.ok r.ok⟩
def R.app (r u : R K) : R K := ⟨r.r ++ u.r, r.ok.app u.ok⟩
def R.inv (r : R K) : R K := ⟨bk r.r, bk_ok r.ok⟩
def R.of (a : G K) : R K := ⟨row a.s, row_ok a.ok⟩
def G.nil : G K := ⟨ST.nil, nil_ok⟩
def G.mk' (r : R K) : G K := T G.nil r
theorem T_app (a : G K) (r u : R K) : T a (r.app u) = T (T a r) u := G.ext acts_app
theorem T_inv (a : G K) (r : R K) : T (T a r) r.inv = a := by
  rw [← T_app]
  exact G.ext (eqv_bk r.ok _ a.ok)
theorem inv_T (a : G K) (r : R K) : T (T a r.inv) r = a := by
  rw [← T_app]
  exact G.ext (bk_eqv r.ok _ a.ok)
theorem T_of (a : G K) (r : R K) : T a (R.of (T G.nil r)) = T a r := G.ext (row_mk r.ok _ a.ok)
theorem T_inv_of (a : G K) (r : R K) : T a (R.of (T G.nil r)).inv = T a r.inv := G.ext (eqv_bk_of (row_ok (mk_ok r.ok)) r.ok (row_mk r.ok) _ a.ok)
theorem T_inv_app (a : G K) (r u : R K) : T a (r.app u).inv = T (T a u.inv) r.inv := by
  rw [← T_app]
  refine G.ext ?_
  show acts a.s (bk (r.r ++ u.r)) = acts a.s (bk u.r ++ bk r.r)
  rw [bk_app]
theorem T_inv_inv (a : G K) (r : R K) : T a r.inv.inv = T a r := by
  have h := T_inv (T a r) r.inv
  rw [T_inv a r] at h
  exact h
theorem T_nil_of (a : G K) : T G.nil (R.of a) = a := G.ext (mk_row a.ok)
theorem T_of_nil (a : G K) : T a (R.of G.nil) = a := G.ext (row_nil _ a.ok)
theorem T_inv_nil (a : G K) : T a (R.of (G.nil : G K)).inv = a := by
  have h := T_inv a (R.of (G.nil : G K))
  rwa [T_of_nil] at h
theorem T_self_inv (a : G K) : T a (R.of a).inv = G.nil := by
  have h := T_inv G.nil (R.of a)
  rwa [T_nil_of] at h
theorem T_of_T (a b : G K) (r : R K) : T a (R.of (T b r)) = T (T a (R.of b)) r := by
  have h := T_of a ((R.of b).app r)
  rw [T_app, T_app, T_nil_of] at h
  exact h
theorem T_inv_T (a b : G K) (r : R K) : T a (R.of (T b r)).inv = T (T a r.inv) (R.of b).inv := by
  have h := T_inv_of a ((R.of b).app r)
  rw [T_app, T_nil_of, T_inv_app] at h
  exact h
/-! products, undone, seen -/
def G.mul (a b : G K) : G K := T a (R.of b)
def G.inv (a : G K) : G K := T G.nil (R.of a).inv
def G.seen (a c : G K) : G K := T (T (T G.nil (R.of c).inv) (R.of a)) (R.of c)
theorem seen_back (a c : G K) : (a.seen c).seen c.inv = a := by
  simp only [G.seen, G.inv, T_inv_T, T_of_T, T_inv_nil, T_of_nil, T_inv_inv, T_inv, inv_T, T_nil_of, T_self_inv]
theorem seen_self (a : G K) : a.seen a = a := by
  simp only [G.seen, G.inv, inv_T, T_nil_of]
theorem seen_nil (a : G K) : a.seen G.nil = a := by
  simp only [G.seen, T_inv_nil, T_of_nil, T_nil_of]
theorem nil_seen (c : G K) : (G.nil : G K).seen c = G.nil := by
  simp only [G.seen, T_inv_nil, T_of_nil, T_nil_of, inv_T]
theorem seen_mul (a c d : G K) : (a.seen c).seen d = a.seen (c.mul d) := by
  simp only [G.seen, G.mul, T_inv_T, T_of_T, T_inv_nil, T_of_nil, T_inv_inv, T_inv, inv_T, T_nil_of, T_self_inv]
theorem inv_seen (a c : G K) : a.inv.seen c = (a.seen c).inv := by
  simp only [G.seen, G.inv, T_inv_T, T_of_T, T_inv_nil, T_of_nil, T_inv_inv, T_inv, inv_T, T_nil_of, T_self_inv]
theorem mul_seen (a b c : G K) : (a.seen c).mul (b.seen c) = (a.mul b).seen c := by
  simp only [G.seen, G.mul, T_inv_T, T_of_T, T_inv_nil, T_of_nil, T_inv_inv, T_inv, inv_T, T_nil_of, T_self_inv]
theorem mul_assoc (a b c : G K) : (a.mul b).mul c = a.mul (b.mul c) := by
  simp only [G.mul, T_of_T]
theorem mul_nil (a : G K) : a.mul G.nil = a := T_of_nil a
theorem nil_mul (a : G K) : G.nil.mul a = a := T_nil_of a
theorem mul_inv (a : G K) : a.mul a.inv = G.nil := by
  simp only [G.mul, G.inv, T_of_T, T_of_nil]
  have := T_inv G.nil (R.of a)
  rwa [T_nil_of] at this
theorem inv_mul (a : G K) : a.inv.mul a = G.nil := inv_T G.nil (R.of a)
theorem inv_inv (a : G K) : a.inv.inv = a := by
  simp only [G.inv, T_inv_T, T_inv_nil, T_inv_inv, T_nil_of]
end ST
end EV

set_option Elab.async false
set_option linter.all false
set_option maxRecDepth 100000
set_option maxHeartbeats 400000
open PySem PySem.Spec PyProof.Rows L2
namespace EV
local macro_rules | `(tactic| subst_eqs) => `(tactic| simp -dsimp only [e10_64, OW_some, OW_none, OW_map, OW_bind, OW_ite, OW_guard, SlotV_some, look_val, look_own, MvV_val, MvV_own, W_var, W_mv, W_con, W_glo, W_bin, W_neg, W_not, W_cmp, W_chn, W_and, W_or, OrV_bool, AndV_bool, W_ite, W_tup, W_lst, W_dct, W_rng, W_idx, W_slc, W_rev, W_call, W_blt, W_mth, OwnV_some, W_mut, W_isi, W_lc, WL_nil, WL_cons, WA_nil, WA_lend, WA_c_var, WA_c_mv, WA_c_con, WA_c_glo, WA_c_bin, WA_c_neg, WA_c_not, WA_c_cmp, WA_c_chn, WA_c_and, WA_c_or, WA_c_ite, WA_c_tup, WA_c_lst, WA_c_dct, WA_c_rng, WA_c_idx, WA_c_slc, WA_c_rev, WA_c_call, WA_c_blt, WA_c_mth, WA_c_mut, WA_c_isi, WA_c_lc, WP_nil, WP_cons, WO_non, WO_som, WI_blt, WI_of, WB_nil, nextQ_next, nextQ_brk, nextQ_cnt, nextQ_ret, WB_cons, WS_asg, AsO_own, AsO_val, WS_asgO, WS_par, WS_put, WS_exp, WS_ret, RetO_own, RetO_val, WS_retO, WS_ifs, WS_whl, WS_fo, WS_brk, WS_cnt, WS_pas, sl_eq, Nat.zero_le, WS_augA, WS_augS, LtW_eq, Sl.val.injEq, wipeE, List.getD_cons_zero, List.getD_cons_succ, turnQ_next, turnQ_cnt, turnQ_brk, turnQ_ret, cfg_glob, cfg_wf, endQ_ret, endQ_next, Br_true, Br_false, Br_dec, Br_not,
  str_inj, view_val, view_own, view_brw, parts_val, parts_own, parts_brw_ofL, keep_val, keep_own, toO_val, toO_own, isBrw_val, isBrw_own, isBrw_brw, fz_imm, fz_ofL, fz_lst, fz_dct, fzk_nil, fzk_cons, kD_inl, kD_inr, dK_int, dK_str, keeps_nil, keeps_cons, partsL_nil, partsL_cons, truthD_none, truthD_bool, truthD_int, truthD_list, truthD_tuple, add_int, sub_int, mul_int, fdiv_int, mod_int, pow_int, bxor_int, band_int, bor_int, add_tup, add_lst, mul_lst, mul_tup, rep_one, eq_int, ne_int, lt_int, le_int, gt_int, ge_int, at_dct, ofO_imm, ofO_ofL, ofO_dct, idx_val, idx_own, idx_brw, idxD_list, idxD_tuple, at_ofL, slc_list, slc_tuple, rev_list, rev_tuple, len_list, len_tuple, int_int, max_int, min_int, tuple_list, tuple_tuple, list_list, list_tuple, sum_ints, range1t, range2t, items_list, items_tuple, isi_none_int, isi_none_bool, isi_none_str, isi_none_list, isi_none_tuple, isi_none_dict, isi_bool_int, isi_bool_bool, isi_bool_str, isi_bool_list, isi_bool_tuple, isi_bool_dict, isi_int_int, isi_int_bool, isi_int_str, isi_int_list, isi_int_tuple, isi_int_dict, isi_str_int, isi_str_bool, isi_str_str, isi_str_list, isi_str_tuple, isi_str_dict, isi_list_int, isi_list_bool, isi_list_str, isi_list_list, isi_list_tuple, isi_list_dict, isi_tuple_int, isi_tuple_bool, isi_tuple_str, isi_tuple_list, isi_tuple_tuple, isi_tuple_dict, append_ofL, pop_snoc, atP_nil, putP_nil, atP_cons, putP_cons, setAt_dct, setAt_ofL, setT_nm, setT_tup, setT_lst, enumT, enumLs, zipTT, zipLL, setTs_nil, setTs_cons, isL_ofL, isL_lst, lent_nil, lent_val, lent_own, back_nil, back_val, back_lend, outs_nil, outs_val, outs_own, Cd_non, Cd_bl, Cd_int, Cd_str, parL_nil, parL_f, parL_o, parL_v,
  placeAt, putO, List.find?_cons, List.find?_nil, List.any_cons, List.any_nil, List.all_cons, List.all_nil, List.isEmpty_cons, List.isEmpty_nil, List.map_cons, List.map_nil, List.getElem?_cons_zero, List.getElem?_cons_succ, List.getElem?_nil, List.set_cons_zero, List.set_cons_succ, List.length_cons, List.length_nil, List.replicate_zero, List.replicate_succ, List.cons_append, List.nil_append, Sum.inr.injEq, Sum.inl.injEq, reduceCtorEq, String.reduceEq, decide_true, decide_false, Blt.hands, pureE, pureL, pureO, pureP, pureI, brwOk, parOk, Bool.true_and, Bool.and_true, Bool.false_and, Bool.and_false, Bool.or_false, Bool.false_or, Bool.or_true, Bool.true_or, Bool.not_true, Bool.not_false, if_true, if_false, reduceIte, true_and, and_true, and_self, false_and, and_false, ne_eq, not_true_eq_false, not_false_eq_true, exists_eq_left', exists_eq_left, RV.val.injEq, PyData.int.injEq, PyData.str.injEq, PyData.bool.injEq, implies_true, forall_const, Option.map_some, Option.map_none, Option.bind_some, Option.bind_none, Option.isSome_some, Nat.zero_add, Nat.reduceAdd, Nat.reduceSub, Nat.reduceLeDiff, Nat.reduceLT, Nat.reducePow, Int.reduceLT, Int.reduceLE, Int.reduceAdd, Int.reduceSub, Int.reduceMul, Int.reduceNeg, Int.reducePow, Int.reduceToNat, Nat.reduceEqDiff, Int.reduceEq, true_or, or_true, gt_iff_lt, ge_iff_le, bne_iff_ne, tgtIx, List.contains_cons, List.contains_nil])
local macro_rules | `(tactic| dsimp! [$xs,*]) => `(tactic| simp -dsimp only [$xs,*, e10_64, OW_some, OW_none, OW_map, OW_bind, OW_ite, OW_guard, SlotV_some, look_val, look_own, MvV_val, MvV_own, W_var, W_mv, W_con, W_glo, W_bin, W_neg, W_not, W_cmp, W_chn, W_and, W_or, OrV_bool, AndV_bool, W_ite, W_tup, W_lst, W_dct, W_rng, W_idx, W_slc, W_rev, W_call, W_blt, W_mth, OwnV_some, W_mut, W_isi, W_lc, WL_nil, WL_cons, WA_nil, WA_lend, WA_c_var, WA_c_mv, WA_c_con, WA_c_glo, WA_c_bin, WA_c_neg, WA_c_not, WA_c_cmp, WA_c_chn, WA_c_and, WA_c_or, WA_c_ite, WA_c_tup, WA_c_lst, WA_c_dct, WA_c_rng, WA_c_idx, WA_c_slc, WA_c_rev, WA_c_call, WA_c_blt, WA_c_mth, WA_c_mut, WA_c_isi, WA_c_lc, WP_nil, WP_cons, WO_non, WO_som, WI_blt, WI_of, WB_nil, nextQ_next, nextQ_brk, nextQ_cnt, nextQ_ret, WB_cons, WS_asg, AsO_own, AsO_val, WS_asgO, WS_par, WS_put, WS_exp, WS_ret, RetO_own, RetO_val, WS_retO, WS_ifs, WS_whl, WS_fo, WS_brk, WS_cnt, WS_pas, sl_eq, Nat.zero_le, WS_augA, WS_augS, LtW_eq, Sl.val.injEq, wipeE, List.getD_cons_zero, List.getD_cons_succ, turnQ_next, turnQ_cnt, turnQ_brk, turnQ_ret, cfg_glob, cfg_wf, endQ_ret, endQ_next, Br_true, Br_false, Br_dec, Br_not,
  str_inj, view_val, view_own, view_brw, parts_val, parts_own, parts_brw_ofL, keep_val, keep_own, toO_val, toO_own, isBrw_val, isBrw_own, isBrw_brw, fz_imm, fz_ofL, fz_lst, fz_dct, fzk_nil, fzk_cons, kD_inl, kD_inr, dK_int, dK_str, keeps_nil, keeps_cons, partsL_nil, partsL_cons, truthD_none, truthD_bool, truthD_int, truthD_list, truthD_tuple, add_int, sub_int, mul_int, fdiv_int, mod_int, pow_int, bxor_int, band_int, bor_int, add_tup, add_lst, mul_lst, mul_tup, rep_one, eq_int, ne_int, lt_int, le_int, gt_int, ge_int, at_dct, ofO_imm, ofO_ofL, ofO_dct, idx_val, idx_own, idx_brw, idxD_list, idxD_tuple, at_ofL, slc_list, slc_tuple, rev_list, rev_tuple, len_list, len_tuple, int_int, max_int, min_int, tuple_list, tuple_tuple, list_list, list_tuple, sum_ints, range1t, range2t, items_list, items_tuple, isi_none_int, isi_none_bool, isi_none_str, isi_none_list, isi_none_tuple, isi_none_dict, isi_bool_int, isi_bool_bool, isi_bool_str, isi_bool_list, isi_bool_tuple, isi_bool_dict, isi_int_int, isi_int_bool, isi_int_str, isi_int_list, isi_int_tuple, isi_int_dict, isi_str_int, isi_str_bool, isi_str_str, isi_str_list, isi_str_tuple, isi_str_dict, isi_list_int, isi_list_bool, isi_list_str, isi_list_list, isi_list_tuple, isi_list_dict, isi_tuple_int, isi_tuple_bool, isi_tuple_str, isi_tuple_list, isi_tuple_tuple, isi_tuple_dict, append_ofL, pop_snoc, atP_nil, putP_nil, atP_cons, putP_cons, setAt_dct, setAt_ofL, setT_nm, setT_tup, setT_lst, enumT, enumLs, zipTT, zipLL, setTs_nil, setTs_cons, isL_ofL, isL_lst, lent_nil, lent_val, lent_own, back_nil, back_val, back_lend, outs_nil, outs_val, outs_own, Cd_non, Cd_bl, Cd_int, Cd_str, parL_nil, parL_f, parL_o, parL_v,
  placeAt, putO, List.find?_cons, List.find?_nil, List.any_cons, List.any_nil, List.all_cons, List.all_nil, List.isEmpty_cons, List.isEmpty_nil, List.map_cons, List.map_nil, List.getElem?_cons_zero, List.getElem?_cons_succ, List.getElem?_nil, List.set_cons_zero, List.set_cons_succ, List.length_cons, List.length_nil, List.replicate_zero, List.replicate_succ, List.cons_append, List.nil_append, Sum.inr.injEq, Sum.inl.injEq, reduceCtorEq, String.reduceEq, decide_true, decide_false, Blt.hands, pureE, pureL, pureO, pureP, pureI, brwOk, parOk, Bool.true_and, Bool.and_true, Bool.false_and, Bool.and_false, Bool.or_false, Bool.false_or, Bool.or_true, Bool.true_or, Bool.not_true, Bool.not_false, if_true, if_false, reduceIte, true_and, and_true, and_self, false_and, and_false, ne_eq, not_true_eq_false, not_false_eq_true, exists_eq_left', exists_eq_left, RV.val.injEq, PyData.int.injEq, PyData.str.injEq, PyData.bool.injEq, implies_true, forall_const, Option.map_some, Option.map_none, Option.bind_some, Option.bind_none, Option.isSome_some, Nat.zero_add, Nat.reduceAdd, Nat.reduceSub, Nat.reduceLeDiff, Nat.reduceLT, Nat.reducePow, Int.reduceLT, Int.reduceLE, Int.reduceAdd, Int.reduceSub, Int.reduceMul, Int.reduceNeg, Int.reducePow, Int.reduceToNat, Nat.reduceEqDiff, Int.reduceEq, true_or, or_true, gt_iff_lt, ge_iff_le, bne_iff_ne, tgtIx, List.contains_cons, List.contains_nil])
/-! the small fields (own work) -/
def Fld (q : Int) : Prop := q ∈ ([2, 3, 4, 5, 7, 8, 9, 11, 13, 16] : List Int)
instance {q : Int} : Decidable (Fld q) := inferInstanceAs (Decidable (q ∈ _))
def Num (q a : Int) : Prop := 0 ≤ a ∧ a < q
theorem Fld.cases {q : Int} (h : Fld q) : q = 2 ∨ q = 3 ∨ q = 4 ∨ q = 5 ∨ q = 7 ∨ q = 8 ∨ q = 9 ∨ q = 11 ∨ q = 13 ∨ q = 16 := by simpa [Fld] using h
theorem Fld.lo {q : Int} (h : Fld q) : 2 ≤ q := by have := h.cases; omega
theorem Fld.hi {q : Int} (h : Fld q) : q ≤ 16 := by have := h.cases; omega
def powsF (q : Int) : List Int := if q = 4 then [1, 2, 3] else if q = 8 then [1, 2, 4, 3, 6, 7, 5] else if q = 9 then [1, 3, 4, 7, 2, 6, 8, 5] else if q = 16 then [1, 2, 4, 8, 3, 6, 12, 11, 5, 10, 7, 14, 15, 13, 9] else []
def plusF (q a b : Int) : Int := if q = 9 then (a / 3 + b / 3) % 3 * 3 + (a + b) % 3 else if q = 4 ∨ q = 8 ∨ q = 16 then Builtin.bitXor a b else (a + b) % q
def timesF (q a b : Int) : Int := if q = 4 ∨ q = 8 ∨ q = 9 ∨ q = 16 then (if a = 0 ∨ b = 0 then 0 else (powsF q).getD (((powsF q).idxOf a + (powsF q).idxOf b) % (q.toNat - 1)) 0) else a * b % q
def fldList : List Nat := [2, 3, 4, 5, 7, 8, 9, 11, 13, 16]
theorem Fld.nat {q : Int} (h : Fld q) : ∃ n : Nat, n ∈ fldList ∧ q = n := by
  rcases h.cases with rfl | rfl | rfl | rfl | rfl | rfl | rfl | rfl | rfl | rfl
  · exact ⟨2, by decide, rfl⟩
  · exact ⟨3, by decide, rfl⟩
  · exact ⟨4, by decide, rfl⟩
  · exact ⟨5, by decide, rfl⟩
  · exact ⟨7, by decide, rfl⟩
  · exact ⟨8, by decide, rfl⟩
  · exact ⟨9, by decide, rfl⟩
  · exact ⟨11, by decide, rfl⟩
  · exact ⟨13, by decide, rfl⟩
  · exact ⟨16, by decide, rfl⟩
theorem Num.nat {q : Nat} {a : Int} (h : Num q a) : ∃ n : Nat, n ∈ List.range q ∧ a = n := by
  obtain ⟨n, rfl⟩ := Int.eq_ofNat_of_zero_le h.1
  exact ⟨n, List.mem_range.mpr (by have := h.2; omega), rfl⟩
/-- what holds of all numbers, by looking at all -/
theorem all1 {φ : Int → Int → Bool} (h : (fldList.all fun q => (List.range q).all fun a => φ q a) = true) {q a : Int} (hq : Fld q) (ha : Num q a) : φ q a = true := by
  obtain ⟨n, hn, rfl⟩ := hq.nat
  obtain ⟨i, hi, rfl⟩ := ha.nat
  exact List.all_eq_true.mp (List.all_eq_true.mp h n hn) i hi
theorem all2 {φ : Int → Int → Int → Bool} (h : (fldList.all fun q => (List.range q).all fun a => (List.range q).all fun b => φ q a b) = true) {q a b : Int} (hq : Fld q) (ha : Num q a) (hb : Num q b) : φ q a b = true := by
  obtain ⟨n, hn, rfl⟩ := hq.nat
  obtain ⟨i, hi, rfl⟩ := ha.nat
  obtain ⟨j, hj, rfl⟩ := hb.nat
  exact List.all_eq_true.mp (List.all_eq_true.mp (List.all_eq_true.mp h n hn) i hi) j hj
theorem all3 {φ : Int → Int → Int → Int → Bool} (h : (fldList.all fun q => (List.range q).all fun a => (List.range q).all fun b => (List.range q).all fun c => φ q a b c) = true) {q a b c : Int} (hq : Fld q) (ha : Num q a) (hb : Num q b) (hc : Num q c) : φ q a b c = true := by
  obtain ⟨n, hn, rfl⟩ := hq.nat
  obtain ⟨i, hi, rfl⟩ := ha.nat
  obtain ⟨j, hj, rfl⟩ := hb.nat
  obtain ⟨k, hk, rfl⟩ := hc.nat
  exact List.all_eq_true.mp (List.all_eq_true.mp (List.all_eq_true.mp (List.all_eq_true.mp h n hn) i hi) j hj) k hk
theorem plus_num {q a b : Int} (hq : Fld q) (ha : Num q a) (hb : Num q b) : Num q (plusF q a b) :=
  of_decide_eq_true (p := Num q (plusF q a b)) (inst := instDecidableAnd) (all2 (φ := fun q a b => decide (0 ≤ plusF q a b ∧ plusF q a b < q)) (by decide +kernel) hq ha hb)
theorem times_num {q a b : Int} (hq : Fld q) (ha : Num q a) (hb : Num q b) : Num q (timesF q a b) :=
  of_decide_eq_true (p := Num q (timesF q a b)) (inst := instDecidableAnd) (all2 (φ := fun q a b => decide (0 ≤ timesF q a b ∧ timesF q a b < q)) (by decide +kernel) hq ha hb)
theorem times_comm {q a b : Int} (hq : Fld q) (ha : Num q a) (hb : Num q b) : timesF q a b = timesF q b a :=
  of_decide_eq_true (all2 (φ := fun q a b => decide (timesF q a b = timesF q b a)) (by decide +kernel) hq ha hb)
theorem times_assoc {q a b c : Int} (hq : Fld q) (ha : Num q a) (hb : Num q b) (hc : Num q c) : timesF q (timesF q a b) c = timesF q a (timesF q b c) :=
  of_decide_eq_true (all3 (φ := fun q a b c => decide (timesF q (timesF q a b) c = timesF q a (timesF q b c))) (by decide +kernel) hq ha hb hc)
theorem times_plus {q a b c : Int} (hq : Fld q) (ha : Num q a) (hb : Num q b) (hc : Num q c) : timesF q a (plusF q b c) = plusF q (timesF q a b) (timesF q a c) :=
  of_decide_eq_true (all3 (φ := fun q a b c => decide (timesF q a (plusF q b c) = plusF q (timesF q a b) (timesF q a c))) (by decide +kernel) hq ha hb hc)
/-! the package's functions of numbers (own work) -/
def cPOWERS : D := .dict [(.int 4, .tuple [.int 1, .int 2, .int 3]), (.int 8, .tuple [.int 1, .int 2, .int 4, .int 3, .int 6, .int 7, .int 5]), (.int 9, .tuple [.int 1, .int 3, .int 4, .int 7, .int 2, .int 6, .int 8, .int 5]), (.int 16, .tuple [.int 1, .int 2, .int 4, .int 8, .int 3, .int 6, .int 12, .int 11, .int 5, .int 10, .int 7, .int 14, .int 15, .int 13, .int 9])]
def f_plus : Fn := ⟨["q", "a", "b"], 3, (.cons (.ifs (.cmp .eq (.var 0) (.con (.int 9))) (.cons (.ret (.bin .add (.bin .mul (.bin .mod (.bin .add (.bin .fdiv (.var 1) (.con (.int 3))) (.bin .fdiv (.var 2) (.con (.int 3)))) (.con (.int 3))) (.con (.int 3))) (.bin .mod (.bin .add (.var 1) (.var 2)) (.con (.int 3))))) .nil) .nil) (.cons (.ret (.ite (.cmp .isin (.var 0) (.glo "POWERS")) (.bin .bxor (.var 1) (.var 2)) (.bin .mod (.bin .add (.var 1) (.var 2)) (.var 0)))) .nil))⟩
def f_times : Fn := ⟨["q", "a", "b"], 4, (.cons (.ifs (.cmp .notin (.var 0) (.glo "POWERS")) (.cons (.ret (.bin .mod (.bin .mul (.var 1) (.var 2)) (.var 0))) .nil) .nil) (.cons (.ifs (.or (.cmp .eq (.var 1) (.con (.int 0))) (.cmp .eq (.var 2) (.con (.int 0)))) (.cons (.ret (.con (.int 0))) .nil) .nil) (.cons (.asg (.nm 3) (.idx (.glo "POWERS") (.var 0))) (.cons (.ret (.idx (.var 3) (.bin .mod (.bin .add (.mth .index (.var 3) (.cons (.var 1) .nil)) (.mth .index (.var 3) (.cons (.var 2) .nil))) (.bin .sub (.var 0) (.con (.int 1)))))) .nil))))⟩
theorem isin_POWERS {q : Int} : cmpR .isin (.int q) cPOWERS = some (decide (q = 4 ∨ q = 8 ∨ q = 9 ∨ q = 16)) := by
  have : plainKs [(PyData.int 4, PyData.tuple [.int 1, .int 2, .int 3]), (.int 8, .tuple [.int 1, .int 2, .int 4, .int 3, .int 6, .int 7, .int 5]), (.int 9, .tuple [.int 1, .int 3, .int 4, .int 7, .int 2, .int 6, .int 8, .int 5]), (.int 16, .tuple [.int 1, .int 2, .int 4, .int 8, .int 3, .int 6, .int 12, .int 11, .int 5, .int 10, .int 7, .int 14, .int 15, .int 13, .int 9])] = true := rfl
  simp only [cmpR, inD, cPOWERS, dK, this, if_true, hasK, findK, Option.some.injEq, Sum.inl.injEq]
  by_cases h4 : (4 : Int) = q
  · subst h4; rfl
  by_cases h8 : (8 : Int) = q
  · subst h8; rfl
  by_cases h9 : (9 : Int) = q
  · subst h9; rfl
  by_cases h16 : (16 : Int) = q
  · subst h16; rfl
  rw [if_neg h4, if_neg h8, if_neg h9, if_neg h16]
  rw [decide_eq_false (by omega)]
  rfl
theorem notin_POWERS {q : Int} : cmpR .notin (.int q) cPOWERS = some (!decide (q = 4 ∨ q = 8 ∨ q = 9 ∨ q = 16)) := by
  have := isin_POWERS (q := q)
  simp only [cmpR] at this ⊢
  rw [this]
  rfl
theorem plus_spec {P : Prg} (H : P.Has "plus" f_plus) (G : P.Glo "POWERS" cPOWERS) {q a b : Int} (hq : Fld q) (ha : Num q a) (hb : Num q b) {n : Nat} {Q : RV → List Sl → Prop}
    (h : Q (.val (.int (plusF q a b))) [.val (.int q), .val (.int a), .val (.int b)]) : CW (cfg P (n + 1)) "plus" [] [.val (.int q), .val (.int a), .val (.int b)] Q := by
  refine CW_pos H rfl ?_
  show WB (cfg P n) f_plus.body [some (.val (.int q)), some (.val (.int a)), some (.val (.int b))] _
  unfold f_plus
  subst_eqs
  have := hq.lo
  have e : (0 : Int) < q := by omega
  dsimp! [show P.glob "POWERS" = some cPOWERS from G, isin_POWERS]
  refine ⟨fun h9 => ?_, fun h9 => ⟨fun hp => ?_, fun hp => ⟨e, ?_⟩⟩⟩
  · have : plusF q a b = (a / 3 + b / 3) % 3 * 3 + (a + b) % 3 := by rw [plusF, if_pos h9]
    rw [this] at h; exact h
  · have : plusF q a b = Builtin.bitXor a b := by rw [plusF, if_neg h9, if_pos (by omega)]
    rw [this] at h; exact h
  · have : plusF q a b = (a + b) % q := by rw [plusF, if_neg h9, if_neg (by omega)]
    rw [this] at h; exact h
theorem index_dI {l : List Int} {i : Int} (h : i ∈ l) : mthR .index (.tuple (dI l)) [.int i] = some (.val (.int (l.idxOf i))) := by
  have key : ∀ l : List Int, (dI l).map (fun d => PyData.eqv d (.int i)) = l.map (fun j => decide (j = i)) := fun l => by
    simp only [dI, List.map_map]
    exact List.map_congr_left fun j _ => eqv_int
  have key2 : ∀ l : List Int, (l.map fun j => decide (j = i)).idxOf true = l.idxOf i := fun l => by
    induction l with
    | nil => rfl
    | cons a l ih =>
      rw [List.map_cons, List.idxOf_cons, List.idxOf_cons, ih]
      by_cases e : a = i
      · simp [e]
      · rw [decide_eq_false e]
        have : (a == i) = false := by simp [e]
        rw [this]
        rfl
  show (indexOf (dI l) (.int i)).map (fun n => RV.val (.int n)) = _
  unfold indexOf
  have e1 : (dI l).all SeqAt.shaped = true := by
    rw [List.all_eq_true]
    intro d hd
    obtain ⟨j, _, rfl⟩ := List.mem_map.mp hd
    exact shaped_int
  have e2 : (l.map fun j => decide (j = i)).contains true = true := by
    rw [List.contains_iff_mem]
    exact List.mem_map.mpr ⟨i, h, by simp⟩
  simp only [key, e1, e2, shaped_int, Bool.and_self, if_true, key2]
  rfl
theorem pows_at {q : Int} (hp : q = 4 ∨ q = 8 ∨ q = 9 ∨ q = 16) : idxD cPOWERS (.int q) = some (.tuple (dI (powsF q))) := by
  rcases hp with rfl | rfl | rfl | rfl <;> rfl
theorem pows_mem {q a : Int} (hp : q = 4 ∨ q = 8 ∨ q = 9 ∨ q = 16) (ha : Num q a) (h0 : a ≠ 0) : a ∈ powsF q := by
  have hq : Fld q := by rcases hp with rfl | rfl | rfl | rfl <;> decide
  have := of_decide_eq_true (all1 (φ := fun q a => decide ((q = 4 ∨ q = 8 ∨ q = 9 ∨ q = 16) → a ≠ 0 → a ∈ powsF q)) (by decide +kernel) hq ha)
  exact this hp h0
theorem pows_len {q : Int} (hp : q = 4 ∨ q = 8 ∨ q = 9 ∨ q = 16) : (powsF q).length = q.toNat - 1 := by
  rcases hp with rfl | rfl | rfl | rfl <;> rfl
theorem dI_get {l : List Int} {i : Nat} (h : i < l.length) : (dI l)[i]? = some (.int (l.getD i 0)) := by
  unfold dI
  rw [List.getElem?_map, List.getElem?_eq_getElem h, List.getD_eq_getElem?_getD, List.getElem?_eq_getElem h]
  rfl
theorem times_spec {P : Prg} (H : P.Has "times" f_times) (G : P.Glo "POWERS" cPOWERS) {q a b : Int} (hq : Fld q) (ha : Num q a) (hb : Num q b) {n : Nat} {Q : RV → List Sl → Prop}
    (h : Q (.val (.int (timesF q a b))) [.val (.int q), .val (.int a), .val (.int b)]) : CW (cfg P (n + 1)) "times" [] [.val (.int q), .val (.int a), .val (.int b)] Q := by
  refine CW_pos H rfl ?_
  show WB (cfg P n) f_times.body [some (.val (.int q)), some (.val (.int a)), some (.val (.int b)), none] _
  unfold f_times
  subst_eqs
  have h2 := hq.lo
  have h3 := hq.hi
  have a1 := ha.1
  have a2 := ha.2
  dsimp! [show P.glob "POWERS" = some cPOWERS from G, notin_POWERS]
  refine ⟨fun hp => ?_, fun hp => ⟨by omega, by omega, ?_⟩⟩
  · by_cases h0 : a = 0 ∨ b = 0
    · have : timesF q a b = 0 := by rw [timesF, if_pos hp, if_pos h0]
      rw [this] at h
      exact ⟨fun _ => h, fun h1 => ⟨fun _ => h, fun h2 => absurd h0 (by omega)⟩⟩
    · refine ⟨fun z => ?_, fun h0' => ⟨fun z => ?_, fun h1 => ?_⟩⟩
      · omega
      · omega
      · rw [pows_at hp]
        subst_eqs
        rw [index_dI (pows_mem hp ha h0')]
        subst_eqs
        rw [index_dI (pows_mem hp hb h1)]
        subst_eqs
        refine ⟨by omega, ?_⟩
        have e : ((↑((powsF q).idxOf a) : Int) + ↑((powsF q).idxOf b)) % (q - 1) = ((((powsF q).idxOf a + (powsF q).idxOf b) % (q.toNat - 1) : Nat) : Int) := by
          rw [Int.natCast_emod, Int.natCast_add]
          congr 1
          omega
        rw [e, atI_nat, dI_get (by rw [pows_len hp]; exact Nat.mod_lt _ (by omega))]
        have : timesF q a b = (powsF q).getD (((powsF q).idxOf a + (powsF q).idxOf b) % (q.toNat - 1)) 0 := by rw [timesF, if_pos hp, if_neg h0]
        rw [this] at h
        subst_eqs
        exact h
  · have : timesF q a b = a * b % q := by rw [timesF, if_neg hp]
    rw [this] at h; exact h
/-! powers and orders of numbers of the small fields (own work) -/
def f_power : Fn := ⟨["q", "a", "exponent"], 6, (.cons (.par [(3, false), (4, false), (5, false)] (.cons (.con (.int 1)) (.cons (.var 1) (.cons (.var 2) .nil)))) (.cons (.whl (.cmp .gt (.var 5) (.con (.int 0))) (.cons (.ifs (.cmp .eq (.bin .mod (.var 5) (.con (.int 2))) (.con (.int 1))) (.cons (.asg (.nm 3) (.call "times" (.cons (.var 0) (.cons (.var 3) (.cons (.var 4) .nil))) [])) .nil) .nil) (.cons (.asg (.nm 4) (.call "times" (.cons (.var 0) (.cons (.var 4) (.cons (.var 4) .nil))) [])) (.cons (.asg (.nm 5) (.bin .fdiv (.var 5) (.con (.int 2)))) .nil)))) (.cons (.ret (.var 3)) .nil)))⟩
def f_inverse : Fn := ⟨["q", "a"], 2, (.cons (.ret (.call "power" (.cons (.var 0) (.cons (.var 1) (.cons (.bin .sub (.var 0) (.con (.int 2))) .nil))) [])) .nil)⟩
def powN (q a : Int) : Nat → Int
  | 0 => 1
  | n + 1 => timesF q (powN q a n) a
theorem Fld.one {q : Int} (h : Fld q) : Num q 1 := ⟨by omega, by have := h.lo; omega⟩
theorem Fld.zero {q : Int} (h : Fld q) : Num q 0 := ⟨by omega, by have := h.lo; omega⟩
theorem pow_num {q a : Int} (hq : Fld q) (ha : Num q a) : ∀ n, Num q (powN q a n)
  | 0 => hq.one
  | n + 1 => times_num hq (pow_num hq ha n) ha
theorem times_one {q a : Int} (hq : Fld q) (ha : Num q a) : timesF q a 1 = a :=
  of_decide_eq_true (all1 (φ := fun q a => decide (timesF q a 1 = a)) (by decide +kernel) hq ha)
theorem one_times {q a : Int} (hq : Fld q) (ha : Num q a) : timesF q 1 a = a := by rw [times_comm hq hq.one ha, times_one hq ha]
theorem pow_add {q a : Int} (hq : Fld q) (ha : Num q a) (m : Nat) : ∀ n, powN q a (m + n) = timesF q (powN q a m) (powN q a n)
  | 0 => (times_one hq (pow_num hq ha m)).symm
  | n + 1 => by
    rw [← Nat.add_assoc, powN, pow_add hq ha m n, times_assoc hq (pow_num hq ha m) (pow_num hq ha n) ha, powN]
theorem pow_sq {q a : Int} (hq : Fld q) (ha : Num q a) : ∀ n, powN q (timesF q a a) n = powN q a (2 * n)
  | 0 => rfl
  | n + 1 => by
    rw [powN, pow_sq hq ha n, Nat.mul_add, pow_add hq ha]
    show _ = timesF q _ (timesF q (timesF q 1 a) a)
    rw [one_times hq ha]
theorem pow_mul {q a : Int} (hq : Fld q) (ha : Num q a) (m : Nat) : ∀ n, powN q a (m * n) = powN q (powN q a m) n
  | 0 => rfl
  | n + 1 => by rw [Nat.mul_succ, pow_add hq ha, pow_mul hq ha m n, powN]
theorem pow_one {q a : Int} (hq : Fld q) (ha : Num q a) : powN q a 1 = a := one_times hq ha
theorem one_pow {q : Int} (hq : Fld q) : ∀ n, powN q 1 n = 1
  | 0 => rfl
  | n + 1 => by rw [powN, one_pow hq n, times_one hq hq.one]
theorem zero_pow {q : Int} (hq : Fld q) : ∀ n, powN q 0 (n + 1) = 0 := fun n =>
  of_decide_eq_true (all1 (φ := fun q a => decide (timesF q a 0 = 0)) (by decide +kernel) hq (pow_num hq hq.zero n))
theorem half_odd {l : Nat} (h : (l : Int) % 2 = 1) : l = 2 * (l / 2) + 1 := by omega
theorem half_even {l : Nat} (h : ¬ (l : Int) % 2 = 1) : l = 2 * (l / 2) := by omega
theorem power_spec {P : Prg} (H : P.Has "times" f_times) (G : P.Glo "POWERS" cPOWERS) (H2 : P.Has "power" f_power) {q a : Int} {e : Nat} (hq : Fld q) (ha : Num q a) (hw : e < P.wf) {n : Nat} {Q : RV → List Sl → Prop}
    (h : Q (.val (.int (powN q a e))) [.val (.int q), .val (.int a), .val (.int e)]) : CW (cfg P (n + 2)) "power" [] [.val (.int q), .val (.int a), .val (.int e)] Q := by
  refine CW_pos H2 rfl ?_
  show WB (cfg P (n + 1)) f_power.body [some (.val (.int q)), some (.val (.int a)), some (.val (.int e)), none, none, none] _
  unfold f_power
  subst_eqs
  refine WhW_inv (fun m env => ∃ f b, Num q f ∧ Num q b ∧ timesF q f (powN q b m) = powN q a e ∧ env = [some (.val (.int q)), some (.val (.int a)), some (.val (.int e)), some (.val (.int f)), some (.val (.int b)), some (.val (.int m))]) e hw
    ⟨1, a, hq.one, ha, one_times hq (pow_num hq ha e), rfl⟩ ?_
  rintro m env ⟨f, b, hf, hb, he, rfl⟩
  subst_eqs
  refine ⟨fun h0 => ?_, fun h0 => ?_⟩
  · have e2 : (m : Int) / 2 = ((m / 2 : Nat) : Int) := by omega
    have bb := times_num hq hb hb
    refine ⟨fun ho => ?_, fun ho => ?_⟩
    · refine times_spec H G hq hf hb ?_
      subst_eqs
      refine times_spec H G hq hb hb ?_
      subst_eqs
      rw [e2]
      refine ⟨m / 2, by omega, timesF q f b, timesF q b b, times_num hq hf hb, bb, ?_, rfl⟩
      rw [← he, pow_sq hq hb, half_odd ho, times_assoc hq hf hb (pow_num hq hb _)]
      have : powN q b (2 * (m / 2) + 1) = timesF q b (powN q b (2 * (m / 2))) := times_comm hq (pow_num hq hb _) hb
      rw [← half_odd ho] at this ⊢
      rw [this]
    · refine times_spec H G hq hb hb ?_
      subst_eqs
      rw [e2]
      refine ⟨m / 2, by omega, f, timesF q b b, hf, bb, ?_, rfl⟩
      rw [← he, pow_sq hq hb, ← half_even ho]
  · have : m = 0 := by omega
    subst this
    have : timesF q f 1 = powN q a e := he
    rw [times_one hq hf] at this
    subst this
    subst_eqs
    exact h
/-- the inverse -/
def invF (q a : Int) : Int := powN q a (q.toNat - 2)
theorem inverse_spec {P : Prg} (H : P.Has "times" f_times) (G : P.Glo "POWERS" cPOWERS) (H2 : P.Has "power" f_power) (H3 : P.Has "inverse" f_inverse) {q a : Int} (hq : Fld q) (ha : Num q a) (hw : 2 ^ 64 ≤ P.wf) {n : Nat} {Q : RV → List Sl → Prop}
    (h : Q (.val (.int (invF q a))) [.val (.int q), .val (.int a)]) : CW (cfg P (n + 3)) "inverse" [] [.val (.int q), .val (.int a)] Q := by
  refine CW_pos H3 rfl ?_
  show WB (cfg P (n + 2)) f_inverse.body [some (.val (.int q)), some (.val (.int a))] _
  unfold f_inverse
  subst_eqs
  have := hq.lo
  have := hq.hi
  have e : q - 2 = ((q.toNat - 2 : Nat) : Int) := by omega
  rw [e]
  refine power_spec H G H2 hq ha (by omega) ?_
  subst_eqs
  exact h
/-! the small fields as rings (own work) -/
def oppF (q a : Int) : Int := if q = 9 then (0 - a / 3) % 3 * 3 + (0 - a) % 3 else if q = 4 ∨ q = 8 ∨ q = 16 then a else (0 - a) % q
theorem opp_num {q a : Int} (hq : Fld q) (ha : Num q a) : Num q (oppF q a) :=
  of_decide_eq_true (p := Num q (oppF q a)) (inst := instDecidableAnd) (all1 (φ := fun q a => decide (0 ≤ oppF q a ∧ oppF q a < q)) (by decide +kernel) hq ha)
theorem opp_plus {q a : Int} (hq : Fld q) (ha : Num q a) : plusF q (oppF q a) a = 0 :=
  of_decide_eq_true (all1 (φ := fun q a => decide (plusF q (oppF q a) a = 0)) (by decide +kernel) hq ha)
theorem plus_zero {q a : Int} (hq : Fld q) (ha : Num q a) : plusF q a 0 = a :=
  of_decide_eq_true (all1 (φ := fun q a => decide (plusF q a 0 = a)) (by decide +kernel) hq ha)
theorem plus_comm {q a b : Int} (hq : Fld q) (ha : Num q a) (hb : Num q b) : plusF q a b = plusF q b a :=
  of_decide_eq_true (all2 (φ := fun q a b => decide (plusF q a b = plusF q b a)) (by decide +kernel) hq ha hb)
theorem plus_assoc {q a b c : Int} (hq : Fld q) (ha : Num q a) (hb : Num q b) (hc : Num q c) : plusF q (plusF q a b) c = plusF q a (plusF q b c) :=
  of_decide_eq_true (all3 (φ := fun q a b c => decide (plusF q (plusF q a b) c = plusF q a (plusF q b c))) (by decide +kernel) hq ha hb hc)
theorem zero_times {q a : Int} (hq : Fld q) (ha : Num q a) : timesF q 0 a = 0 :=
  of_decide_eq_true (all1 (φ := fun q a => decide (timesF q 0 a = 0)) (by decide +kernel) hq ha)
theorem inv_numF {q a : Int} (hq : Fld q) (ha : Num q a) : Num q (invF q a) := pow_num hq ha _
theorem inv_isF {q a : Int} (hq : Fld q) (ha : Num q a) (h0 : a ≠ 0) : timesF q a (invF q a) = 1 :=
  of_decide_eq_true (all1 (φ := fun q a => decide (a ≠ 0 → timesF q a (invF q a) = 1)) (by decide +kernel) hq ha) h0
class FldI (q : Int) : Prop where
  out : Fld q
structure El (q : Int) where
  v : Int
  num : Num q v
theorem El.ext {q : Int} {a b : El q} (h : a.v = b.v) : a = b := by
  cases a; cases b
  simp only at h
  subst h
  rfl
theorem El.ext_iff {q : Int} {a b : El q} : a = b ↔ a.v = b.v := ⟨fun h => by rw [h], El.ext⟩
instance {q : Int} : DecidableEq (El q) := fun a b => if h : a.v = b.v then isTrue (El.ext h) else isFalse fun e => h (by rw [e])
section
variable {q : Int} [hq : FldI q]
instance : Zero (El q) := ⟨⟨0, hq.out.zero⟩⟩
instance : One (El q) := ⟨⟨1, hq.out.one⟩⟩
instance : Add (El q) := ⟨fun a b => ⟨plusF q a.v b.v, plus_num hq.out a.num b.num⟩⟩
instance : Mul (El q) := ⟨fun a b => ⟨timesF q a.v b.v, times_num hq.out a.num b.num⟩⟩
instance : Neg (El q) := ⟨fun a => ⟨oppF q a.v, opp_num hq.out a.num⟩⟩
instance : Sub (El q) := ⟨fun a b => a + -b⟩
instance : Inv (El q) := ⟨fun a => if a.v = 0 then a else ⟨invF q a.v, inv_numF hq.out a.num⟩⟩
instance : Div (El q) := ⟨fun a b => a * b⁻¹⟩
def El.nat : Nat → El q
  | 0 => 0
  | 1 => 1
  | n + 2 => El.nat (n + 1) + 1
def El.npow (a : El q) : Nat → El q
  | 0 => 1
  | n + 1 => El.npow a n * a
def El.int : Int → El q
  | .ofNat n => El.nat n
  | .negSucc n => -(El.nat (n + 1))
instance : NatCast (El q) := ⟨El.nat⟩
instance (n : Nat) : OfNat (El q) n := ⟨El.nat n⟩
instance : SMul Nat (El q) := ⟨fun n a => El.nat n * a⟩
instance : HPow (El q) Nat (El q) := ⟨El.npow⟩
instance : IntCast (El q) := ⟨El.int⟩
instance : SMul Int (El q) := ⟨fun n a => El.int n * a⟩
theorem El.add_v (a b : El q) : (a + b).v = plusF q a.v b.v := rfl
theorem El.mul_v (a b : El q) : (a * b).v = timesF q a.v b.v := rfl
theorem El.neg_v (a : El q) : (-a).v = oppF q a.v := rfl
theorem El.sub_v (a b : El q) : (a - b).v = plusF q a.v (oppF q b.v) := rfl
theorem El.zero_v : (0 : El q).v = 0 := rfl
theorem El.one_v : (1 : El q).v = 1 := rfl
theorem El.inv_v {a : El q} (h : a.v ≠ 0) : (a⁻¹).v = invF q a.v := by
  show (if a.v = 0 then a else _).v = _
  rw [if_neg h]
instance elSemi : Lean.Grind.Semiring (El q) where
  add_zero a := El.ext (plus_zero hq.out a.num)
  add_comm a b := El.ext (plus_comm hq.out a.num b.num)
  add_assoc a b c := El.ext (plus_assoc hq.out a.num b.num c.num)
  mul_assoc a b c := El.ext (times_assoc hq.out a.num b.num c.num)
  mul_one a := El.ext (times_one hq.out a.num)
  one_mul a := El.ext (one_times hq.out a.num)
  left_distrib a b c := El.ext (times_plus hq.out a.num b.num c.num)
  right_distrib a b c := El.ext (by
    show timesF q (plusF q a.v b.v) c.v = plusF q (timesF q a.v c.v) (timesF q b.v c.v)
    rw [times_comm hq.out (plus_num hq.out a.num b.num) c.num, times_plus hq.out c.num a.num b.num, times_comm hq.out c.num a.num, times_comm hq.out c.num b.num])
  zero_mul a := El.ext (zero_times hq.out a.num)
  mul_zero a := El.ext (by
    show timesF q a.v 0 = 0
    rw [times_comm hq.out a.num hq.out.zero, zero_times hq.out a.num])
  pow_zero a := rfl
  pow_succ a n := rfl
  ofNat_succ n := by
    cases n with
    | zero => exact El.ext (by
        show (1 : Int) = plusF q 0 1
        rw [plus_comm hq.out hq.out.zero hq.out.one, plus_zero hq.out hq.out.one])
    | succ n => rfl
  ofNat_eq_natCast n := rfl
  nsmul_eq_natCast_mul n a := rfl
theorem El.neg_neg (a : El q) : - -a = a := by
  have h : ∀ x : El q, -x + x = 0 := fun x => El.ext (opp_plus hq.out x.num)
  have e : - -a + (-a + a) = a := by
    rw [← elSemi.add_assoc, h, elSemi.add_comm, elSemi.add_zero]
  rw [h, elSemi.add_zero] at e
  exact e
theorem El.int_neg (i : Int) : El.int (-i) = -(El.int i : El q) := by
  have z : -(0 : El q) = 0 := by
    have h : -(0 : El q) + 0 = 0 := El.ext (opp_plus hq.out (0 : El q).num)
    rw [elSemi.add_zero] at h
    exact h
  match i with
  | .ofNat 0 => exact z.symm
  | .ofNat (n + 1) => rfl
  | .negSucc n =>
    show El.nat (n + 1) = - -(El.nat (n + 1) : El q)
    rw [El.neg_neg]
theorem El.neg_mul (a b : El q) : -a * b = -(a * b) := by
  have h : ∀ x : El q, -x + x = 0 := fun x => El.ext (opp_plus hq.out x.num)
  have e : -a * b + (a * b + -(a * b)) = -(a * b) := by
    rw [← elSemi.add_assoc, ← elSemi.right_distrib, h, elSemi.zero_mul, elSemi.add_comm, elSemi.add_zero]
  rw [elSemi.add_comm (a * b), h, elSemi.add_zero] at e
  exact e
instance elRing : Lean.Grind.Ring (El q) where
  neg_add_cancel a := El.ext (opp_plus hq.out a.num)
  sub_eq_add_neg a b := rfl
  neg_zsmul i a := by
    show El.int (-i) * a = -(El.int i * a)
    rw [El.int_neg, El.neg_mul]
  zsmul_natCast_eq_nsmul n a := rfl
  intCast_ofNat n := rfl
  intCast_neg i := El.int_neg i
instance elComm : Lean.Grind.CommRing (El q) where
  mul_comm a b := El.ext (times_comm hq.out a.num b.num)
def El.zpow (a : El q) : Int → El q
  | .ofNat n => El.npow a n
  | .negSucc n => (El.npow a (n + 1))⁻¹
instance : HPow (El q) Int (El q) := ⟨El.zpow⟩
theorem El.ne_v {a : El q} (h : a ≠ 0) : a.v ≠ 0 := fun e => h (El.ext e)
theorem El.mul_inv {a : El q} (h : a ≠ 0) : a * a⁻¹ = 1 := El.ext (by
  show timesF q a.v (a⁻¹).v = 1
  rw [El.inv_v (El.ne_v h)]
  exact inv_isF hq.out a.num (El.ne_v h))
theorem El.inv_inv (a : El q) : (a⁻¹)⁻¹ = a := by
  by_cases h : a = 0
  · subst h; rfl
  · have h1 := El.mul_inv h
    have h2 : a⁻¹ ≠ 0 := fun z => by
      rw [z, elSemi.mul_zero] at h1
      have : (0 : Int) = 1 := congrArg El.v h1
      omega
    have h3 := El.mul_inv h2
    have : a * (a⁻¹ * (a⁻¹)⁻¹) = (a⁻¹)⁻¹ := by rw [← elSemi.mul_assoc, h1, elSemi.one_mul]
    rw [h3, elSemi.mul_one] at this
    exact this.symm
theorem El.inv_one : (1 : El q)⁻¹ = 1 := by
  have h : (1 : El q) ≠ 0 := fun z => by
    have : (1 : Int) = 0 := congrArg El.v z
    omega
  have := El.mul_inv h
  rw [elSemi.one_mul] at this
  exact this
instance elField : Lean.Grind.Field (El q) where
  div_eq_mul_inv a b := rfl
  zero_ne_one z := by
    have : (0 : Int) = 1 := congrArg El.v z
    omega
  inv_zero := rfl
  mul_inv_cancel h := El.mul_inv h
  zpow_zero a := rfl
  zpow_succ a n := rfl
  zpow_neg a n := by
    match n with
    | .ofNat 0 => exact El.inv_one.symm
    | .ofNat (n + 1) => rfl
    | .negSucc n => exact (El.inv_inv _).symm
example (a b c : El q) : (a + b) * (a - c) = a * a - a * c + b * a - b * c := by grind
end
/-! the deck of a law (left), and draws from it (own work) -/
def f__law_deck : Fn := ⟨["_law_script", "_law_number"], 4, (.cons (.asg (.nm 2) (.var 1)) (.cons (.fo (.nm 3) (.of (.slc (.var 0) .non (.som (.con (.int 63))))) (.cons (.asg (.nm 2) (.bin .mod (.blt .int (.cons (.bin .add (.bin .add (.bin .mul (.var 2) (.con (.int 69621))) (.bin .mod (.blt .int (.cons (.var 3) .nil)) (.con (.int 2147483629)))) (.con (.int 81))) .nil)) (.con (.int 2147483587)))) .nil)) (.cons (.ret (.dct (.cons (.con (.str "left")) (.rev (.blt .list (.cons (.slc (.var 0) .non (.som (.con (.int 63)))) .nil))) (.cons (.con (.str "mixed")) (.var 2) (.cons (.con (.str "draws")) (.con (.int 0)) .nil))))) .nil)))⟩
def f__law_draw : Fn := ⟨["_law_deck_here", "_law_many"], 4, (.cons (.put 0 .nil (.con (.str "draws")) (.bin .add (.idx (.var 0) (.con (.str "draws"))) (.con (.int 1)))) (.cons (.asg (.nm 2) (.bin .add (.idx (.var 0) (.con (.str "mixed"))) (.bin .mul (.con (.int 59393)) (.idx (.var 0) (.con (.str "draws")))))) (.cons (.ifs (.cmp .ne (.idx (.var 0) (.con (.str "left"))) (.lst .nil)) (.cons (.asg (.nm 3) (.mut .pop 0 (.cons (.con (.str "left")) .nil) .nil)) (.cons (.ifs (.cmp .ge (.var 3) (.bin .pow (.con (.int 10)) (.con (.int 18)))) (.cons (.exp (.mut .append 0 (.cons (.con (.str "left")) .nil) (.cons (.bin .fdiv (.var 3) (.blt .max (.cons (.con (.int 2)) (.cons (.var 1) .nil)))) .nil))) (.cons (.ret (.bin .mod (.blt .int (.cons (.var 3) .nil)) (.var 1))) .nil)) .nil) (.cons (.asg (.nm 2) (.bin .add (.var 2) (.bin .mod (.blt .int (.cons (.var 3) .nil)) (.con (.int 2147483629))))) .nil))) .nil) (.cons (.asg (.nm 2) (.bin .mod (.blt .int (.cons (.bin .add (.bin .mul (.var 2) (.con (.int 40014))) (.con (.int 91))) .nil)) (.con (.int 2147483563)))) (.cons (.asg (.nm 2) (.bin .mod (.blt .int (.cons (.bin .add (.bin .add (.bin .mul (.var 2) (.var 2)) (.bin .mul (.con (.int 52774)) (.idx (.var 0) (.con (.str "draws"))))) (.con (.int 17))) .nil)) (.con (.int 2147483399)))) (.cons (.asg (.nm 2) (.bin .mod (.blt .int (.cons (.bin .mul (.var 2) (.con (.int 40692))) .nil)) (.con (.int 2147483647)))) (.cons (.ret (.bin .mod (.blt .int (.cons (.bin .fdiv (.var 2) (.con (.int 64))) .nil)) (.var 1))) .nil)))))))⟩
def f__law_pick : Fn := ⟨["_law_deck_here", "_law_some"], 2, (.cons (.ret (.idx (.var 1) (.call "_law_draw" (.cons (.lend 0) (.cons (.blt .len (.cons (.var 1) .nil)) .nil)) []))) .nil)⟩
def deckO (cs : List Int) (mx dr : Int) : O := .dct [(.inr "left", ofL (dI cs)), (.inr "mixed", .imm (.int mx)), (.inr "draws", .imm (.int dr))]
def Deck (o : O) : Prop := ∃ cs mx dr, o = deckO cs mx dr ∧ cs.length < 64
theorem cmp_ne_nil {l : List Int} : cmpR .ne (.list (dI l)) (.list []) = some (!decide (l = [])) := by
  have e : (PyData.list []) = .list (dI []) := rfl
  rw [e]
  simp only [cmpR, eqD, shaped_ints_list, Bool.and_self, if_true, Option.map_some, PyData.eqv, eqv_ints]
theorem draw_spec {P : Prg} (H : P.Has "_law_draw" f__law_draw) {o : O} (ho : Deck o) {m : Int} (h0 : 0 < m) (h1 : m < 1073741824) {n : Nat} {Q : RV → List Sl → Prop}
    (h : ∀ o' r, Deck o' → Num m r → Q (.val (.int r)) [.own o', .val (.int m)]) : CW (cfg P (n + 1)) "_law_draw" [] [.own o, .val (.int m)] Q := by
  obtain ⟨cs, mx, dr, rfl, hl⟩ := ho
  refine CW_pos H rfl ?_
  show WB (cfg P n) f__law_draw.body [some (.own (deckO cs mx dr)), some (.val (.int m)), none, none] _
  unfold f__law_draw deckO
  subst_eqs
  have e10 : Int.natAbs 10 < 18446744073709551616 := by decide
  dsimp! [e10, cmp_ne_nil]
  have late : ∀ x : Int, 0 ≤ x % m ∧ x % m < m := fun x => ⟨mod_lo h0, mod_hi h0⟩
  refine ⟨fun hc => ?_, fun hc => ?_⟩
  · subst hc
    refine ⟨by omega, h0, h _ _ ⟨[], mx, dr + 1, rfl, by simp⟩ (late _)⟩
  · obtain ⟨c, ini, rfl⟩ : ∃ c ini, cs = ini ++ [c] := by
      rcases List.eq_nil_or_concat cs with h | ⟨ini, c, h⟩
      · exact absurd h hc
      · exact ⟨c, ini, by rw [h, List.concat_eq_append]⟩
    have e1 : dI (ini ++ [c]) = dI ini ++ [.int c] := by simp [dI]
    rw [e1]
    have hl2 : ini.length < 63 := by
      rw [List.length_append] at hl
      simp at hl
      omega
    subst_eqs
    have e3 : (dI ini).length < 16777216 := by
      simp only [dI, List.length_map]
      have : sizeLine = 16777216 := by decide
      omega
    refine ⟨fun _ => ?_, fun _ => ?_⟩
    · refine ⟨?_, e3, h0, ?_⟩
      · split <;> omega
      · refine h _ _ ⟨ini ++ [c / (if 2 < m then m else 2)], mx, dr + 1, ?_, by simp; omega⟩ (late _)
        simp [deckO, dI]
    · refine ⟨by omega, h0, h _ _ ⟨ini, mx, dr + 1, rfl, by omega⟩ (late _)⟩
theorem cut_hi {xs : List D} {hi : Nat} : cut xs none (some (hi : Int)) = xs.take hi := by
  unfold cut
  rw [HT.sIx_none, HT.sIx_nat, List.drop_zero, Nat.sub_zero, ← List.take_take, List.take_length]
theorem dI_take {l : List Int} {k : Nat} : (dI l).take k = dI (l.take k) := by simp [dI, List.map_take]
theorem dI_rev {l : List Int} : (dI l).reverse = dI l.reverse := by simp [dI, List.map_reverse]
theorem dI_some {l : List Int} {i : Nat} {x : D} (h : (dI l)[i]? = some x) : ∃ c, x = .int c ∧ l[i]? = some c := by
  unfold dI at h
  rw [List.getElem?_map] at h
  cases g : l[i]? with
  | none => rw [g] at h; cases h
  | some c => rw [g] at h; cases h; exact ⟨c, rfl, rfl⟩
theorem dI_mem {l : List Int} {x : D} (h : x ∈ dI l) : ∃ c, x = .int c ∧ c ∈ l := by
  obtain ⟨c, hc, rfl⟩ := List.mem_map.mp h
  exact ⟨c, rfl, hc⟩
theorem deck_spec {P : Prg} (H : P.Has "_law_deck" f__law_deck) {ns : List Int} {n : Nat} {z : Int} {Q : RV → List Sl → Prop}
    (h : ∀ o, Deck o → Q (.own o) [.val (.list (dI ns)), .val (.int z)]) : CW (cfg P (n + 1)) "_law_deck" [] [.val (.list (dI ns)), .val (.int z)] Q := by
  refine CW_pos H rfl ?_
  show WB (cfg P n) f__law_deck.body [some (.val (.list (dI ns))), some (.val (.int z)), none, none] _
  unfold f__law_deck
  subst_eqs
  have e63 : cut (dI ns) none (some 63) = dI (ns.take 63) := by
    have := cut_hi (xs := dI ns) (hi := 63)
    rw [dI_take] at this
    exact this
  refine FoW_inv (fun _ e => ∃ mx c, e = [some (.val (.list (dI ns))), some (.val (.int z)), some (.val (.int mx)), c]) ⟨_, _, rfl⟩ ?_ ?_
  · rintro i x e hx ⟨mx, c, rfl⟩
    rw [e63] at hx
    obtain ⟨c, rfl, _⟩ := dI_some hx
    subst_eqs
    exact ⟨_, _, rfl⟩
  · rintro e ⟨mx, c, rfl⟩
    subst_eqs
    rw [e63, dI_rev]
    exact h _ ⟨_, _, _, rfl, by simp; omega⟩
theorem pick_spec {P : Prg} (H : P.Has "_law_draw" f__law_draw) (H2 : P.Has "_law_pick" f__law_pick) {o : O} (ho : Deck o) {l : List D} (h0 : l ≠ []) (h1 : l.length < 1073741824) {n : Nat} {Q : RV → List Sl → Prop}
    (h : ∀ o' x, Deck o' → x ∈ l → Q (.val x) [.own o', .val (.list l)]) : CW (cfg P (n + 2)) "_law_pick" [] [.own o, .val (.list l)] Q := by
  refine CW_pos H2 rfl ?_
  show WB (cfg P (n + 1)) f__law_pick.body [some (.own o), some (.val (.list l))] _
  unfold f__law_pick
  subst_eqs
  have hl : 0 < l.length := List.length_pos_iff.mpr h0
  refine draw_spec (m := (l.length : Int)) H ho (by omega) (by omega) fun o' r ho' hr => ?_
  subst_eqs
  obtain ⟨r, rfl⟩ := Int.eq_ofNat_of_zero_le hr.1
  have h2 : r < l.length := by have := hr.2; omega
  rw [atI_nat, List.getElem?_eq_getElem h2]
  subst_eqs
  exact h _ _ ho' (List.getElem_mem h2)
theorem pickT_spec {P : Prg} (H : P.Has "_law_draw" f__law_draw) (H2 : P.Has "_law_pick" f__law_pick) {o : O} (ho : Deck o) {l : List D} (h0 : l ≠ []) (h1 : l.length < 1073741824) {n : Nat} {Q : RV → List Sl → Prop}
    (h : ∀ o' x, Deck o' → x ∈ l → Q (.val x) [.own o', .val (.tuple l)]) : CW (cfg P (n + 2)) "_law_pick" [] [.own o, .val (.tuple l)] Q := by
  refine CW_pos H2 rfl ?_
  show WB (cfg P (n + 1)) f__law_pick.body [some (.own o), some (.val (.tuple l))] _
  unfold f__law_pick
  subst_eqs
  have hl : 0 < l.length := List.length_pos_iff.mpr h0
  refine draw_spec (m := (l.length : Int)) H ho (by omega) (by omega) fun o' r ho' hr => ?_
  subst_eqs
  obtain ⟨r, rfl⟩ := Int.eq_ofNat_of_zero_le hr.1
  have h2 : r < l.length := by have := hr.2; omega
  rw [atI_nat, List.getElem?_eq_getElem h2]
  subst_eqs
  exact h _ _ ho' (List.getElem_mem h2)
/-! data whose text is short and plain (own work) -/
structure Fine (n L : Nat) (d : D) : Prop where
  sho : d.showable = true
  nod : d.hasDict = false
  dep : d.depth ≤ n
  len : d.shown.length ≤ L
  asc : ∀ c ∈ d.shown.cps.toList, c < 128
theorem fine_int {n k : Nat} {i : Int} (hk : 0 < k) (hk2 : k ≤ 500) (h : i.natAbs < 10 ^ k) : Fine n (k + 1) (.int i) where
  sho := by
    have h2 : i.natAbs < 2 ^ 1920 := Nat.lt_of_lt_of_le h (Nat.le_trans (Nat.pow_le_pow_right (by decide) hk2) (by decide +kernel))
    simp only [PyData.showable, decide_eq_true_eq]
    by_cases h0 : i.natAbs = 0
    · rw [h0]; decide
    · exact (Nat.log2_lt h0).mpr h2
  nod := by simp only [PyData.hasDict]
  dep := by simp only [PyData.depth]; exact Nat.zero_le _
  len := by
    have e := int_text_length_le10 hk h
    show (Str.ofString (toString i)).length ≤ _
    rw [PySem.ofString_length]; exact e
  asc := fun c hc => by
    rw [PyData.shown_int] at hc
    by_cases g : c < 128
    · exact g
    · exact absurd hc (int_text_free' c (by omega) i)
theorem fine_bool {n : Nat} {b : Bool} : Fine n 5 (.bool b) where
  sho := by simp only [PyData.showable]
  nod := by simp only [PyData.hasDict]
  dep := by simp only [PyData.depth]; exact Nat.zero_le _
  len := by cases b <;> decide
  asc := by cases b <;> decide
theorem fine_none {n : Nat} : Fine n 4 .none where
  sho := by simp only [PyData.showable]
  nod := by simp only [PyData.hasDict]
  dep := by simp only [PyData.depth]; exact Nat.zero_le _
  len := by decide
  asc := by decide
theorem fineAll {n L : Nat} : ∀ {xs : List D}, (∀ d ∈ xs, Fine n L d) → PyData.showableAll xs = true ∧ PyData.hasDictAll xs = false ∧ PyData.depthAll xs ≤ n ∧ ((PyData.shownAll xs).map (·.length)).sum ≤ xs.length * L ∧ (PyData.shownAll xs).length = xs.length ∧ ∀ t ∈ PyData.shownAll xs, ∀ c ∈ t.cps.toList, c < 128
  | [], _ => by simp [PyData.showableAll, PyData.hasDictAll, PyData.depthAll, PyData.shownAll]
  | x :: xs, h => by
    have hx := h x List.mem_cons_self
    obtain ⟨a, b, c, d, e, f⟩ := fineAll (xs := xs) fun y hy => h y (List.mem_cons_of_mem _ hy)
    have h1 := hx.len
    have h2 := hx.dep
    refine ⟨?_, ?_, ?_, ?_, ?_, ?_⟩
    · simp only [PyData.showableAll, hx.sho, a, Bool.and_self]
    · simp only [PyData.hasDictAll, hx.nod, b, Bool.or_self]
    · simp only [PyData.depthAll]; omega
    · simp only [PyData.shownAll, List.map_cons, List.sum_cons, List.length_cons, Nat.succ_mul]; omega
    · simp only [PyData.shownAll, List.length_cons, e]
    · intro t ht
      simp only [PyData.shownAll, List.mem_cons] at ht
      rcases ht with rfl | ht
      · exact hx.asc
      · exact f t ht
theorem fine_list {n L m : Nat} {xs : List D} (h : ∀ d ∈ xs, Fine n L d) (hm : xs.length ≤ m) : Fine (n + 1) (m * (L + 2) + 3) (.list xs) := by
  obtain ⟨a, b, c, d, e, f⟩ := fineAll h
  have h1 : xs.length * (L + 2) ≤ m * (L + 2) := Nat.mul_le_mul_right _ hm
  have h2 : xs.length * (L + 2) = xs.length * L + xs.length * 2 := Nat.mul_add _ _ _
  refine ⟨by simp only [PyData.showable, a], by simp only [PyData.hasDict, b], by simp only [PyData.depth]; omega, ?_, ?_⟩
  · have := listText_len_le (PyData.shownAll xs)
    show (listText (PyData.shownAll xs)).length ≤ _
    omega
  · intro c hc
    rw [PyData.shown_list, mem_cps_append, mem_cps_append, signs_lbrack, signs_rbrack, mem_join] at hc
    rcases hc with (hm | (⟨t, ht, hc⟩ | ⟨hl, hs⟩)) | hm
    · simp at hm; omega
    · exact f t ht c hc
    · rw [signs_sep] at hs; simp at hs; omega
    · simp at hm; omega
theorem fine_tuple {n L m : Nat} {xs : List D} (h : ∀ d ∈ xs, Fine n L d) (hm : xs.length ≤ m) : Fine (n + 1) (m * (L + 2) + 3) (.tuple xs) := by
  obtain ⟨a, b, c, d, e, f⟩ := fineAll h
  have h1 : xs.length * (L + 2) ≤ m * (L + 2) := Nat.mul_le_mul_right _ hm
  have h2 : xs.length * (L + 2) = xs.length * L + xs.length * 2 := Nat.mul_add _ _ _
  refine ⟨by simp only [PyData.showable, a], by simp only [PyData.hasDict, b], by simp only [PyData.depth]; omega, ?_, ?_⟩
  · have := tupleText_len_le (PyData.shownAll xs)
    show (tupleText (PyData.shownAll xs)).length ≤ _
    omega
  · intro c hc
    rw [PyData.shown_tuple, mem_cps_append, mem_cps_append, signs_lparen, signs_tuple_end, mem_join] at hc
    rcases hc with (hm | (⟨t, ht, hc⟩ | ⟨hl, hs⟩)) | hm
    · simp at hm; omega
    · exact f t ht c hc
    · rw [signs_sep] at hs; simp at hs; omega
    · split at hm <;> simp at hm <;> omega
theorem Fine.more {n n' L L' : Nat} {d : D} (h : Fine n L d) (h1 : n ≤ n') (h2 : L ≤ L') : Fine n' L' d := ⟨h.sho, h.nod, Nat.le_trans h.dep h1, Nat.le_trans h.len h2, h.asc⟩
theorem Fine.rep {n L : Nat} {d : D} (h : Fine n L d) (h1 : n < 64) (h2 : L ≤ 16777216) : repOk d = true := by
  have e := h.dep
  have e2 := h.len
  have e3 := sl_eq
  simp only [repOk, h.sho, h.nod, Bool.not_false, Bool.and_true, Bool.true_and, Bool.and_eq_true, decide_eq_true_eq]
  omega
theorem Fine.str {n L : Nat} {d : D} (h : Fine n L d) : PyData.strOk d.shown = true := by
  unfold PyData.strOk
  rw [Array.all_eq_true_iff_forall_mem]
  intro c hc
  have := h.asc c (Array.mem_toList_iff.mpr hc)
  exact decide_eq_true (by omega)
theorem ne_str_refl {x : Str} (h : PyData.strOk x = true) : cmpR .ne (.str x) (.str x) = some false := by
  have := eq_str_refl h
  simp only [cmpR] at this ⊢
  rw [this]
  rfl
theorem eqv_str {x y : Str} : PyData.eqv (.str x) (.str y) = decide (x = y) := by
  simp only [PyData.eqv]; rfl
/-! lists of numbers without zeros at the end (own work) -/
def cf (l : List Int) (i : Nat) : Int := l.getD i 0
def trimL (l : List Int) : List Int := (l.reverse.dropWhile (fun x => decide (x = 0))).reverse
theorem cf_nil (i : Nat) : cf [] i = 0 := rfl
theorem cf_lt {l : List Int} {i : Nat} (h : i < l.length) : cf l i = l[i] := by
  unfold cf
  rw [List.getD_eq_getElem?_getD, List.getElem?_eq_getElem h]
  rfl
theorem cf_ge {l : List Int} {i : Nat} (h : l.length ≤ i) : cf l i = 0 := by
  unfold cf
  rw [List.getD_eq_getElem?_getD, List.getElem?_eq_none h]
  rfl
theorem cf_some {l : List Int} {i : Nat} {x : Int} (h : l[i]? = some x) : cf l i = x := by
  unfold cf
  rw [List.getD_eq_getElem?_getD, h]
  rfl
theorem trim_snoc0 {l : List Int} : trimL (l ++ [0]) = trimL l := by simp [trimL]
theorem trim_snoc {l : List Int} {x : Int} (h : x ≠ 0) : trimL (l ++ [x]) = l ++ [x] := by simp [trimL, h]
theorem trim_nil : trimL [] = [] := rfl
theorem snoc_ind {α : Type} {φ : List α → Prop} (h0 : φ []) (h1 : ∀ l x, φ l → φ (l ++ [x])) : ∀ l, φ l := fun l => by
  have : ∀ n, ∀ l : List α, l.length = n → φ l := fun n => by
    induction n with
    | zero => intro l hl; rw [List.length_eq_zero_iff.mp hl]; exact h0
    | succ n ih =>
      intro l hl
      rcases List.eq_nil_or_concat l with rfl | ⟨ini, x, rfl⟩
      · cases hl
      · rw [List.concat_eq_append]
        rw [List.concat_eq_append, List.length_append] at hl
        exact h1 _ _ (ih _ (by simpa using hl))
  exact this _ l rfl
theorem cf_snoc0 {l : List Int} {i : Nat} : cf (l ++ [0]) i = cf l i := by
  by_cases h : i < l.length
  · rw [cf_lt h, cf_lt (by rw [List.length_append]; omega), List.getElem_append_left h]
  · rw [cf_ge (l := l) (by omega)]
    by_cases g : i = l.length
    · rw [cf_lt (by rw [List.length_append, g]; simp)]
      subst g
      simp
    · exact cf_ge (by rw [List.length_append]; simp; omega)
theorem cf_trim {l : List Int} {i : Nat} : cf (trimL l) i = cf l i := by
  refine snoc_ind (φ := fun l => cf (trimL l) i = cf l i) rfl (fun l x ih => ?_) l
  by_cases h : x = 0
  · subst h
    rw [trim_snoc0, ih, cf_snoc0]
  · rw [trim_snoc h]
theorem trim_zero {l : List Int} (h : ∀ i, cf l i = 0) : trimL l = [] := by
  refine snoc_ind (φ := fun l => (∀ i, cf l i = 0) → trimL l = []) (fun _ => rfl) (fun l x ih h => ?_) l h
  have hx : x = 0 := by
    have := h l.length
    rw [cf_lt (by rw [List.length_append]; simp)] at this
    simpa using this
  subst hx
  rw [trim_snoc0]
  exact ih fun i => by rw [← cf_snoc0]; exact h i
/-- a list ends with no zero -/
def Trim (l : List Int) : Prop := l = [] ∨ ∃ m x, l = m ++ [x] ∧ x ≠ 0
theorem trim_trim (l : List Int) : Trim (trimL l) := by
  refine snoc_ind (φ := fun l => Trim (trimL l)) (.inl rfl) (fun l x ih => ?_) l
  by_cases h : x = 0
  · subst h; rw [trim_snoc0]; exact ih
  · rw [trim_snoc h]; exact .inr ⟨l, x, rfl, h⟩
theorem trim_same {l : List Int} (h : Trim l) : trimL l = l := by
  rcases h with rfl | ⟨m, x, rfl, hx⟩
  · rfl
  · exact trim_snoc hx
theorem Trim.top {l : List Int} (h : Trim l) (h0 : l ≠ []) : cf l (l.length - 1) ≠ 0 := by
  rcases h with rfl | ⟨m, x, rfl, hx⟩
  · exact absurd rfl h0
  · rw [cf_lt (by simp)]
    simpa using hx
theorem trim_len_le {l m : List Int} (hl : Trim l) (h : ∀ i, cf l i = cf m i) : l.length ≤ m.length := by
  by_cases h0 : l = []
  · rw [h0]; exact Nat.zero_le _
  · have := hl.top h0
    rw [h] at this
    rcases Nat.lt_or_ge (l.length - 1) m.length with g | g
    · omega
    · exact absurd (cf_ge g) this
theorem trim_eq {l m : List Int} (hl : Trim l) (hm : Trim m) (h : ∀ i, cf l i = cf m i) : l = m := by
  have e := Nat.le_antisymm (trim_len_le hl h) (trim_len_le hm fun i => (h i).symm)
  refine List.ext_getElem e fun i h1 h2 => ?_
  rw [← cf_lt h1, ← cf_lt h2, h]
/-- what is the same number by number is the same without zeros at the end -/
theorem trim_ext {l m : List Int} (h : ∀ i, cf l i = cf m i) : trimL l = trimL m :=
  trim_eq (trim_trim l) (trim_trim m) fun i => by rw [cf_trim, cf_trim, h]
theorem trim_len {l : List Int} : (trimL l).length ≤ l.length := trim_len_le (trim_trim l) fun _ => cf_trim
theorem mem_trim {l : List Int} {x : Int} (h : x ∈ trimL l) : x ∈ l := by
  unfold trimL at h
  have := List.mem_reverse.mp h
  exact List.mem_reverse.mp ((List.dropWhile_sublist _).mem this)
theorem trim_nil_iff {l : List Int} : trimL l = [] ↔ ∀ i, cf l i = 0 := ⟨fun h i => by rw [← cf_trim, h]; rfl, trim_zero⟩
theorem cf_map {l : List Int} {f : Int → Int} (h : f 0 = 0) {i : Nat} : cf (l.map f) i = f (cf l i) := by
  by_cases g : i < l.length
  · rw [cf_lt (by rw [List.length_map]; exact g), cf_lt g, List.getElem_map]
  · rw [cf_ge (by rw [List.length_map]; omega), cf_ge (by omega), h]
theorem trim_map {l : List Int} {f : Int → Int} (h0 : f 0 = 0) (h1 : ∀ x ∈ l, x ≠ 0 → f x ≠ 0) (hl : Trim l) : Trim (l.map f) := by
  rcases hl with rfl | ⟨m, x, rfl, hx⟩
  · exact .inl rfl
  · exact .inr ⟨m.map f, f x, by simp, h1 x (by simp) hx⟩
def NumL (q : Int) (l : List Int) : Prop := ∀ x ∈ l, Num q x
theorem NumL.trim {q : Int} {l : List Int} (h : NumL q l) : NumL q (trimL l) := fun x hx => h x (mem_trim hx)
theorem NumL.cf {q : Int} (hq : Fld q) {l : List Int} (h : NumL q l) (i : Nat) : Num q (cf l i) := by
  by_cases g : i < l.length
  · rw [cf_lt g]; exact h _ (List.getElem_mem g)
  · rw [cf_ge (by omega)]; exact hq.zero
def f_trimmed : Fn := ⟨["numbers"], 2, (.cons (.asg (.nm 1) (.blt .len (.cons (.var 0) .nil))) (.cons (.whl (.and (.cmp .gt (.var 1) (.con (.int 0))) (.cmp .eq (.idx (.var 0) (.bin .sub (.var 1) (.con (.int 1)))) (.con (.int 0)))) (.cons (.asg (.nm 1) (.bin .sub (.var 1) (.con (.int 1)))) .nil)) (.cons (.ret (.blt .tuple (.cons (.slc (.var 0) .non (.som (.var 1))) .nil))) .nil)))⟩
theorem dI_at {l : List Int} {i : Nat} (h : i < l.length) : atI (dI l) (i : Int) = some (.int (cf l i)) := by
  rw [atI_nat]
  unfold dI
  rw [List.getElem?_map, List.getElem?_eq_getElem h, cf_lt h]
  rfl
theorem take_top {l : List Int} {m : Nat} (h : m + 1 ≤ l.length) : l.take (m + 1) = l.take m ++ [cf l m] := by
  rw [List.take_add_one, List.getElem?_eq_getElem (by omega), cf_lt (by omega)]
  rfl
theorem trimmed_spec {P : Prg} (H : P.Has "trimmed" f_trimmed) {l : List Int} (hw : l.length < P.wf) (hl : l.length < 1000000) {n : Nat} {Q : RV → List Sl → Prop}
    (h : Q (.val (.tuple (dI (trimL l)))) [.val (.list (dI l))]) : CW (cfg P (n + 1)) "trimmed" [] [.val (.list (dI l))] Q := by
  refine CW_pos H rfl ?_
  show WB (cfg P n) f_trimmed.body [some (.val (.list (dI l))), none] _
  unfold f_trimmed
  have sl : sizeLine = 16777216 := by decide
  subst_eqs
  rw [dI, List.length_map]
  refine WhW_inv (fun m e => m ≤ l.length ∧ trimL l = trimL (l.take m) ∧ e = [some (.val (.list (dI l))), some (.val (.int m))]) l.length hw ⟨Nat.le_refl _, by rw [List.take_length], rfl⟩ ?_
  rintro m e ⟨hm, ht, rfl⟩
  have fin : trimL (l.take m) = l.take m → Q (.val (.tuple (cut (dI l) none (some (m : Int))))) [.val (.list (dI l))] := fun g => by
    rw [cut_hi, dI_take, ← g, ← ht]
    exact h
  subst_eqs
  refine ⟨fun h0 => ?_, fun h0 => ?_⟩
  · obtain ⟨k, rfl⟩ : ∃ k, m = k + 1 := ⟨m - 1, by omega⟩
    have e1 : ((k + 1 : Nat) : Int) - 1 = k := by omega
    rw [e1]
    dsimp! [dI_at (show k < l.length by omega)]
    rw [take_top hm] at ht fin
    refine ⟨fun hz => ⟨k, by omega, by omega, ?_, by rw [e1]⟩, fun hz => ?_⟩
    · rw [ht, hz, trim_snoc0]
    · exact fin (trim_snoc hz)
  · have : m = 0 := by omega
    subst this
    exact fin rfl
/-! the functions of stepwork that a program has (own work) -/
def f_is_integer : Fn := ⟨["thing"], 1, (.cons (.ret (.and (.isi (.var 0) [.int]) (.not (.isi (.var 0) [.bool])))) .nil)⟩
def f_is_number : Fn := ⟨["q", "thing"], 2, (.cons (.ret (.and (.call "is_integer" (.cons (.var 1) .nil) []) (.chn .le .lt (.con (.int 0)) (.var 1) (.var 0)))) .nil)⟩
def f_opposite : Fn := ⟨["q", "a"], 2, (.cons (.ifs (.cmp .eq (.var 0) (.con (.int 9))) (.cons (.ret (.bin .add (.bin .mul (.bin .mod (.bin .sub (.con (.int 0)) (.bin .fdiv (.var 1) (.con (.int 3)))) (.con (.int 3))) (.con (.int 3))) (.bin .mod (.bin .sub (.con (.int 0)) (.var 1)) (.con (.int 3))))) .nil) .nil) (.cons (.ret (.ite (.cmp .isin (.var 0) (.glo "POWERS")) (.var 1) (.bin .mod (.bin .sub (.con (.int 0)) (.var 1)) (.var 0)))) .nil))⟩
def f_minus : Fn := ⟨["q", "a", "b"], 3, (.cons (.ret (.call "plus" (.cons (.var 0) (.cons (.var 1) (.cons (.call "opposite" (.cons (.var 0) (.cons (.var 2) .nil)) []) .nil))) [])) .nil)⟩
def f_are_numbers : Fn := ⟨["q", "thing"], 3, (.cons (.ret (.and (.isi (.var 1) [.tuple]) (.blt .all (.cons (.lc (.nm 2) (.of (.var 1)) (.con (.bl true)) (.call "is_number" (.cons (.var 0) (.cons (.var 2) .nil)) []) [2]) .nil)))) .nil)⟩
def f_is_one_letter : Fn := ⟨["q", "thing"], 2, (.cons (.ret (.and (.call "are_numbers" (.cons (.var 0) (.cons (.var 1) .nil)) []) (.or (.cmp .eq (.var 1) (.tup .nil)) (.cmp .ne (.idx (.var 1) (.neg (.con (.int 1)))) (.con (.int 0)))))) .nil)⟩
def f_one_plus : Fn := ⟨["q", "f", "g"], 8, (.cons (.asg (.nm 3) (.blt .max (.cons (.blt .len (.cons (.var 1) .nil)) (.cons (.blt .len (.cons (.var 2) .nil)) .nil)))) (.cons (.par [(4, false), (5, false)] (.cons (.bin .add (.var 1) (.bin .mul (.tup (.cons (.con (.int 0)) .nil)) (.bin .sub (.var 3) (.blt .len (.cons (.var 1) .nil))))) (.cons (.bin .add (.var 2) (.bin .mul (.tup (.cons (.con (.int 0)) .nil)) (.bin .sub (.var 3) (.blt .len (.cons (.var 2) .nil))))) .nil))) (.cons (.ret (.call "trimmed" (.cons (.lc (.tup (.cons (.nm 6) (.cons (.nm 7) .nil))) (.blt .zip (.cons (.var 4) (.cons (.var 5) .nil))) (.con (.bl true)) (.call "plus" (.cons (.var 0) (.cons (.var 6) (.cons (.var 7) .nil))) []) [6, 7]) .nil) [])) .nil)))⟩
def f_one_opposite : Fn := ⟨["q", "f"], 3, (.cons (.ret (.blt .tuple (.cons (.lc (.nm 2) (.of (.var 1)) (.con (.bl true)) (.call "opposite" (.cons (.var 0) (.cons (.var 2) .nil)) []) [2]) .nil))) .nil)⟩
def f_one_scaled : Fn := ⟨["q", "f", "number"], 4, (.cons (.ret (.call "trimmed" (.cons (.lc (.nm 3) (.of (.var 1)) (.con (.bl true)) (.call "times" (.cons (.var 0) (.cons (.var 3) (.cons (.var 2) .nil))) []) [3]) .nil) [])) .nil)⟩
def f_one_times : Fn := ⟨["q", "f", "g"], 8, (.cons (.asgO 3 (.bin .mul (.lst (.cons (.con (.int 0)) .nil)) (.bin .add (.blt .len (.cons (.var 1) .nil)) (.blt .len (.cons (.var 2) .nil))))) (.cons (.fo (.tup (.cons (.nm 4) (.cons (.nm 5) .nil))) (.blt .enumerate (.cons (.var 1) .nil)) (.cons (.fo (.tup (.cons (.nm 6) (.cons (.nm 7) .nil))) (.blt .enumerate (.cons (.var 2) .nil)) (.cons (.put 3 .nil (.bin .add (.var 4) (.var 6)) (.call "plus" (.cons (.var 0) (.cons (.idx (.var 3) (.bin .add (.var 4) (.var 6))) (.cons (.call "times" (.cons (.var 0) (.cons (.var 5) (.cons (.var 7) .nil))) []) .nil))) [])) .nil)) .nil)) (.cons (.ret (.call "trimmed" (.cons (.mv 3) .nil) [])) .nil)))⟩
def f_one_put : Fn := ⟨["q", "f", "g"], 5, (.cons (.asg (.nm 3) (.tup .nil)) (.cons (.fo (.nm 4) (.of (.rev (.var 1))) (.cons (.asg (.nm 3) (.call "one_plus" (.cons (.var 0) (.cons (.call "one_times" (.cons (.var 0) (.cons (.var 3) (.cons (.var 2) .nil))) []) (.cons (.call "trimmed" (.cons (.lst (.cons (.var 4) .nil)) .nil) []) .nil))) [])) .nil)) (.cons (.ret (.var 3)) .nil)))⟩
def f_map_determinant : Fn := ⟨["q", "m"], 2, (.cons (.ret (.call "minus" (.cons (.var 0) (.cons (.call "times" (.cons (.var 0) (.cons (.idx (.var 1) (.con (.int 0))) (.cons (.idx (.var 1) (.con (.int 4))) .nil))) []) (.cons (.call "times" (.cons (.var 0) (.cons (.idx (.var 1) (.con (.int 1))) (.cons (.idx (.var 1) (.con (.int 3))) .nil))) []) .nil))) [])) .nil)⟩
def f_is_straight : Fn := ⟨["q", "thing"], 2, (.cons (.ret (.and (.call "are_numbers" (.cons (.var 0) (.cons (.var 1) .nil)) []) (.and (.cmp .eq (.blt .len (.cons (.var 1) .nil)) (.con (.int 6))) (.cmp .ne (.call "map_determinant" (.cons (.var 0) (.cons (.var 1) .nil)) []) (.con (.int 0)))))) .nil)⟩
def f_is_bend : Fn := ⟨["q", "thing"], 2, (.cons (.ret (.and (.call "is_one_letter" (.cons (.var 0) (.cons (.var 1) .nil)) []) (.and (.chn .le .le (.con (.int 3)) (.blt .len (.cons (.var 1) .nil)) (.con (.int 7))) (.cmp .eq (.slc (.var 1) .non (.som (.con (.int 2)))) (.tup (.cons (.con (.int 0)) (.cons (.con (.int 0)) .nil))))))) .nil)⟩
def f_turn_map : Fn := ⟨["e"], 1, (.cons (.ret (.tup (.cons (.con (.int 0)) (.cons (.con (.int 1)) (.cons (.con (.int 0)) (.cons (.con (.int 1)) (.cons (.var 0) (.cons (.con (.int 0)) .nil)))))))) .nil)⟩
def f_sum_of_products : Fn := ⟨["q", "a", "b", "c", "d"], 5, (.cons (.ret (.call "plus" (.cons (.var 0) (.cons (.call "times" (.cons (.var 0) (.cons (.var 1) (.cons (.var 2) .nil))) []) (.cons (.call "times" (.cons (.var 0) (.cons (.var 3) (.cons (.var 4) .nil))) []) .nil))) [])) .nil)⟩
def f_straight_then : Fn := ⟨["q", "one", "other"], 13, (.cons (.asg (.tup (.cons (.nm 3) (.cons (.nm 4) (.cons (.nm 5) (.cons (.nm 6) (.cons (.nm 7) (.cons (.nm 8) .nil))))))) (.var 1)) (.cons (.asg (.nm 9) (.tup .nil)) (.cons (.fo (.tup (.cons (.nm 10) (.cons (.nm 11) (.cons (.nm 12) .nil)))) (.of (.tup (.cons (.slc (.var 2) .non (.som (.con (.int 3)))) (.cons (.slc (.var 2) (.som (.con (.int 3))) .non) .nil)))) (.cons (.asg (.nm 9) (.bin .add (.var 9) (.tup (.cons (.call "sum_of_products" (.cons (.var 0) (.cons (.var 10) (.cons (.var 3) (.cons (.var 11) (.cons (.var 6) .nil))))) []) (.cons (.call "sum_of_products" (.cons (.var 0) (.cons (.var 10) (.cons (.var 4) (.cons (.var 11) (.cons (.var 7) .nil))))) []) .nil))))) (.cons (.asg (.nm 9) (.bin .add (.var 9) (.tup (.cons (.call "plus" (.cons (.var 0) (.cons (.call "sum_of_products" (.cons (.var 0) (.cons (.var 10) (.cons (.var 5) (.cons (.var 11) (.cons (.var 8) .nil))))) []) (.cons (.var 12) .nil))) []) .nil)))) .nil))) (.cons (.ret (.var 9)) .nil))))⟩
def f_straight_back : Fn := ⟨["q", "m"], 8, (.cons (.asg (.nm 2) (.call "inverse" (.cons (.var 0) (.cons (.call "map_determinant" (.cons (.var 0) (.cons (.var 1) .nil)) []) .nil)) [])) (.cons (.par [(3, false), (4, false)] (.cons (.call "times" (.cons (.var 0) (.cons (.idx (.var 1) (.con (.int 4))) (.cons (.var 2) .nil))) []) (.cons (.call "opposite" (.cons (.var 0) (.cons (.call "times" (.cons (.var 0) (.cons (.idx (.var 1) (.con (.int 1))) (.cons (.var 2) .nil))) []) .nil)) []) .nil))) (.cons (.par [(5, false), (6, false)] (.cons (.call "opposite" (.cons (.var 0) (.cons (.call "times" (.cons (.var 0) (.cons (.idx (.var 1) (.con (.int 3))) (.cons (.var 2) .nil))) []) .nil)) []) (.cons (.call "times" (.cons (.var 0) (.cons (.idx (.var 1) (.con (.int 0))) (.cons (.var 2) .nil))) []) .nil))) (.cons (.asg (.nm 7) (.call "opposite" (.cons (.var 0) (.cons (.call "sum_of_products" (.cons (.var 0) (.cons (.var 3) (.cons (.idx (.var 1) (.con (.int 2))) (.cons (.var 4) (.cons (.idx (.var 1) (.con (.int 5))) .nil))))) []) .nil)) [])) (.cons (.ret (.tup (.cons (.var 3) (.cons (.var 4) (.cons (.var 7) (.cons (.var 5) (.cons (.var 6) (.cons (.call "opposite" (.cons (.var 0) (.cons (.call "sum_of_products" (.cons (.var 0) (.cons (.var 5) (.cons (.idx (.var 1) (.con (.int 2))) (.cons (.var 6) (.cons (.idx (.var 1) (.con (.int 5))) .nil))))) []) .nil)) []) .nil)))))))) .nil)))))⟩
def f_split_map : Fn := ⟨["q", "m"], 3, (.cons (.ifs (.cmp .eq (.idx (.var 1) (.con (.int 3))) (.con (.int 0))) (.cons (.ret (.tup (.cons (.neg (.con (.int 1))) (.cons (.var 1) .nil)))) .nil) .nil) (.cons (.asg (.nm 2) (.call "times" (.cons (.var 0) (.cons (.idx (.var 1) (.con (.int 4))) (.cons (.call "inverse" (.cons (.var 0) (.cons (.idx (.var 1) (.con (.int 3))) .nil)) []) .nil))) [])) (.cons (.ret (.tup (.cons (.var 2) (.cons (.call "straight_then" (.cons (.var 0) (.cons (.call "straight_back" (.cons (.var 0) (.cons (.call "turn_map" (.cons (.var 2) .nil) []) .nil)) []) (.cons (.var 1) .nil))) []) .nil)))) .nil)))⟩
def f_bend_through : Fn := ⟨["q", "m", "bend"], 12, (.cons (.asg (.tup (.cons (.nm 3) (.cons (.nm 4) (.cons (.nm 5) (.cons (.nm 6) (.cons (.nm 7) (.cons (.nm 8) .nil))))))) (.var 1)) (.cons (.asg (.nm 9) (.call "one_put" (.cons (.var 0) (.cons (.var 2) (.cons (.call "trimmed" (.cons (.lst (.cons (.var 8) (.cons (.var 7) .nil))) .nil) []) .nil))) [])) (.cons (.asg (.nm 10) (.bin .add (.slc (.var 9) .non (.som (.con (.int 2)))) (.tup (.cons (.con (.int 0)) (.cons (.con (.int 0)) .nil))))) (.cons (.asg (.nm 11) (.call "one_scaled" (.cons (.var 0) (.cons (.bin .add (.tup (.cons (.con (.int 0)) (.cons (.con (.int 0)) .nil))) (.slc (.var 9) (.som (.con (.int 2))) .non)) (.cons (.call "inverse" (.cons (.var 0) (.cons (.var 3) .nil)) []) .nil))) [])) (.cons (.ret (.tup (.cons (.var 11) (.cons (.tup (.cons (.var 3) (.cons (.call "plus" (.cons (.var 0) (.cons (.var 4) (.cons (.idx (.var 10) (.con (.int 1))) .nil))) []) (.cons (.call "plus" (.cons (.var 0) (.cons (.var 5) (.cons (.idx (.var 10) (.con (.int 0))) .nil))) []) (.cons (.var 6) (.cons (.var 7) (.cons (.var 8) .nil))))))) .nil)))) .nil)))))⟩
def f_turned_map : Fn := ⟨["q", "r", "m"], 3, (.cons (.ret (.ite (.cmp .eq (.var 1) (.neg (.con (.int 1)))) (.var 2) (.call "straight_then" (.cons (.var 0) (.cons (.call "turn_map" (.cons (.var 1) .nil) []) (.cons (.var 2) .nil))) []))) .nil)⟩
def f_with_straight : Fn := ⟨["q", "step", "m"], 3, (.cons (.ret (.bin .add (.slc (.var 1) .non (.som (.con (.int 3)))) (.tup (.cons (.call "straight_then" (.cons (.var 0) (.cons (.idx (.var 1) (.con (.int 3))) (.cons (.var 2) .nil))) []) .nil)))) .nil)⟩
def f_with_bend : Fn := ⟨["q", "step", "bend"], 10, (.cons (.asg (.tup (.cons (.nm 3) (.cons (.nm 4) (.cons (.nm 5) (.cons (.nm 6) .nil))))) (.var 1)) (.cons (.asg (.tup (.cons (.nm 7) (.cons (.nm 8) .nil))) (.call "split_map" (.cons (.var 0) (.cons (.var 6) .nil)) [])) (.cons (.asg (.tup (.cons (.nm 9) (.cons (.nm 8) .nil))) (.call "bend_through" (.cons (.var 0) (.cons (.var 8) (.cons (.var 2) .nil))) [])) (.cons (.ifs (.cmp .eq (.var 4) (.tup .nil)) (.cons (.ret (.tup (.cons (.var 7) (.cons (.tup (.cons (.var 9) .nil)) (.cons (.tup .nil) (.cons (.var 8) .nil)))))) .nil) .nil) (.cons (.ifs (.cmp .ne (.var 7) (.neg (.con (.int 1)))) (.cons (.ret (.tup (.cons (.var 3) (.cons (.bin .add (.var 4) (.tup (.cons (.var 9) .nil))) (.cons (.bin .add (.var 5) (.tup (.cons (.var 7) .nil))) (.cons (.var 8) .nil)))))) .nil) .nil) (.cons (.asg (.nm 9) (.call "one_plus" (.cons (.var 0) (.cons (.idx (.var 4) (.neg (.con (.int 1)))) (.cons (.var 9) .nil))) [])) (.cons (.ifs (.cmp .ne (.var 9) (.tup .nil)) (.cons (.ret (.tup (.cons (.var 3) (.cons (.bin .add (.slc (.var 4) .non (.som (.neg (.con (.int 1))))) (.tup (.cons (.var 9) .nil))) (.cons (.var 5) (.cons (.var 8) .nil)))))) .nil) .nil) (.cons (.ifs (.cmp .eq (.blt .len (.cons (.var 4) .nil)) (.con (.int 1))) (.cons (.ret (.tup (.cons (.neg (.con (.int 1))) (.cons (.tup .nil) (.cons (.tup .nil) (.cons (.call "turned_map" (.cons (.var 0) (.cons (.var 3) (.cons (.var 8) .nil))) []) .nil)))))) .nil) .nil) (.cons (.ret (.tup (.cons (.var 3) (.cons (.slc (.var 4) .non (.som (.neg (.con (.int 1))))) (.cons (.slc (.var 5) .non (.som (.neg (.con (.int 1))))) (.cons (.call "turned_map" (.cons (.var 0) (.cons (.idx (.var 5) (.neg (.con (.int 1)))) (.cons (.var 8) .nil))) []) .nil)))))) .nil)))))))))⟩
def f_with_pieces : Fn := ⟨["q", "step", "row"], 4, (.cons (.fo (.nm 3) (.of (.var 2)) (.cons (.ifs (.cmp .eq (.idx (.var 3) (.con (.int 0))) (.con (.str "straight"))) (.cons (.asg (.nm 1) (.call "with_straight" (.cons (.var 0) (.cons (.var 1) (.cons (.idx (.var 3) (.con (.int 1))) .nil))) [])) .nil) (.cons (.asg (.nm 1) (.call "with_bend" (.cons (.var 0) (.cons (.var 1) (.cons (.idx (.var 3) (.con (.int 1))) .nil))) [])) .nil)) .nil)) (.cons (.ret (.var 1)) .nil))⟩
def f_pieces_of : Fn := ⟨["step"], 8, (.cons (.asg (.tup (.cons (.nm 1) (.cons (.nm 2) (.cons (.nm 3) (.cons (.nm 4) .nil))))) (.var 0)) (.cons (.asgO 5 (.ite (.cmp .eq (.var 1) (.neg (.con (.int 1)))) (.lst .nil) (.lst (.cons (.tup (.cons (.con (.str "straight")) (.cons (.call "turn_map" (.cons (.var 1) .nil) []) .nil))) .nil)))) (.cons (.fo (.tup (.cons (.nm 6) (.cons (.nm 7) .nil))) (.blt .enumerate (.cons (.var 2) .nil)) (.cons (.exp (.mut .append 5 .nil (.cons (.tup (.cons (.con (.str "bend")) (.cons (.var 7) .nil))) .nil))) (.cons (.ifs (.cmp .lt (.var 6) (.blt .len (.cons (.var 3) .nil))) (.cons (.exp (.mut .append 5 .nil (.cons (.tup (.cons (.con (.str "straight")) (.cons (.call "turn_map" (.cons (.idx (.var 3) (.var 6)) .nil) []) .nil))) .nil))) .nil) .nil) .nil))) (.cons (.ret (.blt .tuple (.cons (.bin .add (.var 5) (.lst (.cons (.tup (.cons (.con (.str "straight")) (.cons (.var 4) .nil))) .nil))) .nil))) .nil))))⟩
def f_back : Fn := ⟨["q", "step"], 5, (.cons (.asgO 2 (.lst .nil)) (.cons (.fo (.tup (.cons (.nm 3) (.cons (.nm 4) .nil))) (.of (.rev (.call "pieces_of" (.cons (.var 1) .nil) []))) (.cons (.exp (.mut .append 2 .nil (.cons (.tup (.cons (.var 3) (.cons (.ite (.cmp .eq (.var 3) (.con (.str "straight"))) (.call "straight_back" (.cons (.var 0) (.cons (.var 4) .nil)) []) (.call "one_opposite" (.cons (.var 0) (.cons (.var 4) .nil)) [])) .nil))) .nil))) .nil)) (.cons (.ret (.call "with_pieces" (.cons (.var 0) (.cons (.glo "NOTHING") (.cons (.mv 2) .nil))) [])) .nil)))⟩
def f_are_bends : Fn := ⟨["q", "thing"], 3, (.cons (.ret (.and (.isi (.var 1) [.tuple]) (.blt .all (.cons (.lc (.nm 2) (.of (.var 1)) (.con (.bl true)) (.call "is_bend" (.cons (.var 0) (.cons (.var 2) .nil)) []) [2]) .nil)))) .nil)⟩
def f_are_turns : Fn := ⟨["q", "thing", "many"], 4, (.cons (.ifs (.or (.not (.isi (.var 1) [.tuple])) (.cmp .ne (.blt .len (.cons (.var 1) .nil)) (.var 2))) (.cons (.ret (.con (.bl false))) .nil) .nil) (.cons (.ret (.blt .all (.cons (.lc (.nm 3) (.of (.var 1)) (.con (.bl true)) (.and (.call "is_integer" (.cons (.var 3) .nil) []) (.chn .le .lt (.con (.int 0)) (.var 3) (.var 0))) [3]) .nil))) .nil))⟩
def f_is_start : Fn := ⟨["q", "thing"], 2, (.cons (.ret (.and (.call "is_integer" (.cons (.var 1) .nil) []) (.chn .le .lt (.neg (.con (.int 1))) (.var 1) (.var 0)))) .nil)⟩
def f_is_step_value : Fn := ⟨["q", "thing"], 2, (.cons (.ifs (.or (.not (.isi (.var 1) [.tuple])) (.cmp .ne (.blt .len (.cons (.var 1) .nil)) (.con (.int 4)))) (.cons (.ret (.con (.bl false))) .nil) .nil) (.cons (.ifs (.or (.not (.call "is_start" (.cons (.var 0) (.cons (.idx (.var 1) (.con (.int 0))) .nil)) [])) (.or (.not (.call "are_bends" (.cons (.var 0) (.cons (.idx (.var 1) (.con (.int 1))) .nil)) [])) (.not (.call "is_straight" (.cons (.var 0) (.cons (.idx (.var 1) (.con (.int 3))) .nil)) [])))) (.cons (.ret (.con (.bl false))) .nil) .nil) (.cons (.ifs (.and (.cmp .eq (.idx (.var 1) (.con (.int 1))) (.tup .nil)) (.cmp .ne (.idx (.var 1) (.con (.int 0))) (.neg (.con (.int 1))))) (.cons (.ret (.con (.bl false))) .nil) .nil) (.cons (.ret (.call "are_turns" (.cons (.var 0) (.cons (.idx (.var 1) (.con (.int 2))) (.cons (.blt .max (.cons (.con (.int 0)) (.cons (.bin .sub (.blt .len (.cons (.idx (.var 1) (.con (.int 1))) .nil)) (.con (.int 1))) .nil))) .nil))) [])) .nil))))⟩
def cNOTHING : D := .tuple [.int (-1), .tuple [], .tuple [], .tuple [.int 1, .int 0, .int 0, .int 0, .int 1, .int 0]]
structure StW (P : Prg) : Prop where
  noth : P.Glo "NOTHING" cNOTHING
  glo : P.Glo "POWERS" cPOWERS
  wf : 2 ^ 64 ≤ P.wf
  is_integer : P.Has "is_integer" f_is_integer
  is_number : P.Has "is_number" f_is_number
  plus : P.Has "plus" f_plus
  opposite : P.Has "opposite" f_opposite
  minus : P.Has "minus" f_minus
  times : P.Has "times" f_times
  power : P.Has "power" f_power
  inverse : P.Has "inverse" f_inverse
  are_numbers : P.Has "are_numbers" f_are_numbers
  trimmed : P.Has "trimmed" f_trimmed
  is_one_letter : P.Has "is_one_letter" f_is_one_letter
  one_plus : P.Has "one_plus" f_one_plus
  one_opposite : P.Has "one_opposite" f_one_opposite
  one_scaled : P.Has "one_scaled" f_one_scaled
  one_times : P.Has "one_times" f_one_times
  one_put : P.Has "one_put" f_one_put
  map_determinant : P.Has "map_determinant" f_map_determinant
  is_straight : P.Has "is_straight" f_is_straight
  is_bend : P.Has "is_bend" f_is_bend
  turn_map : P.Has "turn_map" f_turn_map
  sum_of_products : P.Has "sum_of_products" f_sum_of_products
  straight_then : P.Has "straight_then" f_straight_then
  straight_back : P.Has "straight_back" f_straight_back
  split_map : P.Has "split_map" f_split_map
  bend_through : P.Has "bend_through" f_bend_through
  turned_map : P.Has "turned_map" f_turned_map
  with_straight : P.Has "with_straight" f_with_straight
  with_bend : P.Has "with_bend" f_with_bend
  with_pieces : P.Has "with_pieces" f_with_pieces
  pieces_of : P.Has "pieces_of" f_pieces_of
  back : P.Has "back" f_back
  are_bends : P.Has "are_bends" f_are_bends
  are_turns : P.Has "are_turns" f_are_turns
  is_start : P.Has "is_start" f_is_start
  is_step_value : P.Has "is_step_value" f_is_step_value
/-! one-letter functions (own work) -/
section
variable {P : Prg} {q : Int} [hq : FldI q]
theorem el_plus (H : StW P) (a b : El q) {n : Nat} {Q : RV → List Sl → Prop} (h : Q (.val (.int (a + b).v)) [.val (.int q), .val (.int a.v), .val (.int b.v)]) : CW (cfg P (n + 1)) "plus" [] [.val (.int q), .val (.int a.v), .val (.int b.v)] Q :=
  plus_spec H.plus H.glo hq.out a.num b.num h
theorem el_times (H : StW P) (a b : El q) {n : Nat} {Q : RV → List Sl → Prop} (h : Q (.val (.int (a * b).v)) [.val (.int q), .val (.int a.v), .val (.int b.v)]) : CW (cfg P (n + 1)) "times" [] [.val (.int q), .val (.int a.v), .val (.int b.v)] Q :=
  times_spec H.times H.glo hq.out a.num b.num h
theorem el_inverse (H : StW P) (a : El q) (ha : a ≠ 0) {n : Nat} {Q : RV → List Sl → Prop} (h : Q (.val (.int (a⁻¹).v)) [.val (.int q), .val (.int a.v)]) : CW (cfg P (n + 3)) "inverse" [] [.val (.int q), .val (.int a.v)] Q :=
  inverse_spec H.times H.glo H.power H.inverse hq.out a.num H.wf (by rw [← El.inv_v (El.ne_v ha)]; exact h)
theorem opposite_spec (H : StW P) {a : Int} (ha : Num q a) {n : Nat} {Q : RV → List Sl → Prop} (h : Q (.val (.int (oppF q a))) [.val (.int q), .val (.int a)]) : CW (cfg P (n + 1)) "opposite" [] [.val (.int q), .val (.int a)] Q := by
  refine CW_pos H.opposite rfl ?_
  show WB (cfg P n) f_opposite.body [some (.val (.int q)), some (.val (.int a))] _
  unfold f_opposite
  have := hq.out.lo
  dsimp! [show P.glob "POWERS" = some cPOWERS from H.glo, isin_POWERS]
  refine ⟨fun h9 => ?_, fun h9 => ⟨fun hp => ?_, fun hp => ⟨by omega, ?_⟩⟩⟩
  · rw [oppF, if_pos h9] at h
    rw [Int.zero_sub, Int.zero_sub] at h
    dsimp! [Int.zero_sub]
    exact h
  · rw [oppF, if_neg h9, if_pos (by omega)] at h
    exact h
  · rw [oppF, if_neg h9, if_neg (by omega)] at h
    exact h
theorem el_opposite (H : StW P) (a : El q) {n : Nat} {Q : RV → List Sl → Prop} (h : Q (.val (.int (-a).v)) [.val (.int q), .val (.int a.v)]) : CW (cfg P (n + 1)) "opposite" [] [.val (.int q), .val (.int a.v)] Q := opposite_spec H a.num h
theorem el_minus (H : StW P) (a b : El q) {n : Nat} {Q : RV → List Sl → Prop} (h : Q (.val (.int (a - b).v)) [.val (.int q), .val (.int a.v), .val (.int b.v)]) : CW (cfg P (n + 2)) "minus" [] [.val (.int q), .val (.int a.v), .val (.int b.v)] Q := by
  refine CW_pos H.minus rfl ?_
  show WB (cfg P (n + 1)) f_minus.body [some (.val (.int q)), some (.val (.int a.v)), some (.val (.int b.v))] _
  unfold f_minus
  subst_eqs
  refine el_opposite H b ?_
  subst_eqs
  refine el_plus H a (-b) ?_
  subst_eqs
  exact h
/-! sums -/
def addR (q : Int) (f g : List Int) : List Int := (List.range (max f.length g.length)).map fun i => plusF q (cf f i) (cf g i)
def addL (q : Int) (f g : List Int) : List Int := trimL (addR q f g)
theorem plus_00 : plusF q 0 0 = 0 := plus_zero hq.out hq.out.zero
theorem cf_addR {f g : List Int} {i : Nat} : cf (addR q f g) i = plusF q (cf f i) (cf g i) := by
  by_cases h : i < max f.length g.length
  · rw [cf_lt (by simp [addR]; omega)]
    simp [addR]
  · rw [cf_ge (by simp [addR]; omega), cf_ge (l := f) (by omega), cf_ge (l := g) (by omega), plus_00]
def padL (f : List Int) (k : Nat) : List Int := f ++ List.replicate k 0
theorem cf_pad {f : List Int} {k i : Nat} : cf (padL f k) i = cf f i := by
  unfold padL
  by_cases h : i < f.length
  · rw [cf_lt h, cf_lt (by rw [List.length_append]; omega), List.getElem_append_left h]
  · rw [cf_ge (l := f) (by omega)]
    by_cases g : i < (f ++ List.replicate k (0 : Int)).length
    · rw [cf_lt g, List.getElem_append_right (by omega), List.getElem_replicate]
    · exact cf_ge (by omega)
theorem pad_len {f : List Int} {k : Nat} : (padL f k).length = f.length + k := by simp [padL]
theorem dI_pad {f : List Int} {k : Int} : dI f ++ rep k.toNat [.int 0] = dI (padL f k.toNat) := by
  rw [rep_one]
  simp [dI, padL]
theorem zip_get2 : ∀ (as bs : List D) (i : Nat) (d : D), (zipL as bs)[i]? = some d → ∃ a b, as[i]? = some a ∧ bs[i]? = some b ∧ d = .tuple [a, b]
  | [], _, _, _, h => by simp [zipL] at h
  | _ :: _, [], _, _, h => by simp [zipL] at h
  | a :: as, b :: bs, 0, d, h => by
    have h : some (PyData.tuple [a, b]) = some d := h
    cases h
    exact ⟨a, b, rfl, rfl, rfl⟩
  | a :: as, b :: bs, i + 1, d, h => zip_get2 as bs i d h
theorem zip_len2 : ∀ (as bs : List D), (zipL as bs).length = min as.length bs.length
  | [], _ => by simp [zipL]
  | _ :: _, [] => by simp [zipL]
  | a :: as, b :: bs => by show (zipL as bs).length + 1 = _; rw [zip_len2]; simp
theorem dI_length {l : List Int} : (dI l).length = l.length := by simp [dI]
theorem OW_set2 {i j : Nat} {d1 d2 : D} {e : Ev} {Q : Ev → Prop} : OW (setT (.tup (.cons (.nm i) (.cons (.nm j) .nil))) (.tuple [d1, d2]) e) Q ↔ Q ((e.set i (some (.val d1))).set j (some (.val d2))) := by
  subst_eqs
theorem range_map_dI {n : Nat} {f : Nat → Int} : ((List.range n).filterMap fun i => some (PyData.int (f i))) = dI ((List.range n).map f) := by
  rw [fil_some]
  simp [dI]
theorem one_plus_spec (H : StW P) {f g : List Int} (hf : NumL q f) (hg : NumL q g) (lf : f.length ≤ 1000) (lg : g.length ≤ 1000) {n : Nat} {Q : RV → List Sl → Prop}
    (h : Q (.val (.tuple (dI (addL q f g)))) [.val (.int q), .val (.tuple (dI f)), .val (.tuple (dI g))]) : CW (cfg P (n + 2)) "one_plus" [] [.val (.int q), .val (.tuple (dI f)), .val (.tuple (dI g))] Q := by
  refine CW_pos H.one_plus rfl ?_
  show WB (cfg P (n + 1)) f_one_plus.body [some (.val (.int q)), some (.val (.tuple (dI f))), some (.val (.tuple (dI g))), none, none, none, none, none] _
  unfold f_one_plus
  refine WB_cut (fun e => e = [some (.val (.int q)), some (.val (.tuple (dI f))), some (.val (.tuple (dI g))), some (.val (.int (max f.length g.length : Nat))), none, none, none, none]) ?_ ?_
  · dsimp! [dI_length]
    rw [show (if (f.length : Int) < g.length then (g.length : Int) else f.length) = ((max f.length g.length : Nat) : Int) from by split <;> omega]
  rintro _ rfl
  refine WB_cut (fun e => e = [some (.val (.int q)), some (.val (.tuple (dI f))), some (.val (.tuple (dI g))), some (.val (.int (max f.length g.length : Nat))), some (.val (.tuple (dI (padL f (max f.length g.length - f.length))))), some (.val (.tuple (dI (padL g (max f.length g.length - g.length))))), none, none]) ?_ ?_
  · have e1 : (((max f.length g.length : Nat) : Int) - f.length).toNat = max f.length g.length - f.length := by omega
    have e2 : (((max f.length g.length : Nat) : Int) - g.length).toNat = max f.length g.length - g.length := by omega
    dsimp! [dI_length]
    rw [← rep_one, ← rep_one, dI_pad, dI_pad, e1, e2, rep_one, rep_one, List.length_replicate, List.length_replicate]
    exact ⟨⟨by omega, by omega⟩, by omega, ⟨by omega, by omega⟩, by omega, rfl⟩
  rintro _ rfl
  subst_eqs
  refine ⟨rfl, ?_⟩
  refine LcW_fil (fun i => some (.int (plusF q (cf f i) (cf g i)))) rfl (fun i x hx => ?_) fun e2 he => ?_
  · obtain ⟨a, b, ha, hb, rfl⟩ := zip_get2 _ _ _ _ hx
    obtain ⟨a, rfl, ha2⟩ := dI_some ha
    obtain ⟨b, rfl, hb2⟩ := dI_some hb
    have ea := cf_some ha2
    have eb := cf_some hb2
    rw [cf_pad] at ea eb
    subst ea eb
    subst_eqs
    refine plus_spec H.plus H.glo hq.out (hf.cf hq.out i) (hg.cf hq.out i) ?_
    subst_eqs
    first | exact rfl | exact ⟨rfl, rfl⟩ | exact ⟨rfl, rfl, rfl⟩
  · rw [he, zip_len2, dI_length, dI_length, pad_len, pad_len, range_map_dI, show min (f.length + (max f.length g.length - f.length)) (g.length + (max f.length g.length - g.length)) = max f.length g.length from by omega]
    have e0 : ((List.range (max f.length g.length)).map fun i => plusF q (cf f i) (cf g i)) = addR q f g := rfl
    rw [e0]
    have hw := H.wf
    have hl : (addR q f g).length ≤ 1000 := by simp [addR]; omega
    subst_eqs
    rw [dI_length]
    refine ⟨by omega, ?_⟩
    refine trimmed_spec H.trimmed (by omega) (by omega) ?_
    subst_eqs
    exact h
theorem NumL.add {f g : List Int} (hf : NumL q f) (hg : NumL q g) : NumL q (addR q f g) := fun x hx => by
  obtain ⟨i, _, rfl⟩ := List.mem_map.mp hx
  exact plus_num hq.out (hf.cf hq.out i) (hg.cf hq.out i)
def mapT (f : Int → Int) : D → D
  | .int x => .int (f x)
  | x => x
theorem mapT_dI {f : Int → Int} {l : List Int} : (dI l).map (mapT f) = dI (l.map f) := by
  simp [dI, mapT]
theorem opposite_list_spec (H : StW P) {f : List Int} (hf : NumL q f) (lf : f.length ≤ 1000) {n : Nat} {Q : RV → List Sl → Prop}
    (h : Q (.val (.tuple (dI (f.map (oppF q))))) [.val (.int q), .val (.tuple (dI f))]) : CW (cfg P (n + 2)) "one_opposite" [] [.val (.int q), .val (.tuple (dI f))] Q := by
  refine CW_pos H.one_opposite rfl ?_
  show WB (cfg P (n + 1)) f_one_opposite.body [some (.val (.int q)), some (.val (.tuple (dI f))), none] _
  unfold f_one_opposite
  subst_eqs
  refine ⟨rfl, ?_⟩
  refine LcW_map (mapT (oppF q)) rfl (fun x hx => ?_) fun e2 he => ?_
  · obtain ⟨x, rfl, hx2⟩ := dI_mem hx
    subst_eqs
    refine opposite_spec H (hf x hx2) ?_
    subst_eqs
    first | exact rfl | exact ⟨rfl, rfl⟩ | exact ⟨rfl, rfl, rfl⟩
  · rw [he, mapT_dI]
    subst_eqs
    rw [dI_length, List.length_map]
    exact ⟨by omega, h⟩
theorem scaled_spec (H : StW P) {f : List Int} (hf : NumL q f) (lf : f.length ≤ 1000) {k : Int} (hk : Num q k) {n : Nat} {Q : RV → List Sl → Prop}
    (h : Q (.val (.tuple (dI (trimL (f.map fun x => timesF q x k))))) [.val (.int q), .val (.tuple (dI f)), .val (.int k)]) : CW (cfg P (n + 2)) "one_scaled" [] [.val (.int q), .val (.tuple (dI f)), .val (.int k)] Q := by
  refine CW_pos H.one_scaled rfl ?_
  show WB (cfg P (n + 1)) f_one_scaled.body [some (.val (.int q)), some (.val (.tuple (dI f))), some (.val (.int k)), none] _
  unfold f_one_scaled
  subst_eqs
  refine ⟨rfl, ?_⟩
  refine LcW_map (mapT (fun x => timesF q x k)) rfl (fun x hx => ?_) fun e2 he => ?_
  · obtain ⟨x, rfl, hx2⟩ := dI_mem hx
    subst_eqs
    refine times_spec H.times H.glo hq.out (hf x hx2) hk ?_
    subst_eqs
    first | exact rfl | exact ⟨rfl, rfl⟩ | exact ⟨rfl, rfl, rfl⟩
  · rw [he, mapT_dI]
    subst_eqs
    rw [dI_length, List.length_map]
    have hw := H.wf
    refine ⟨by omega, ?_⟩
    refine trimmed_spec H.trimmed (by rw [List.length_map]; omega) (by rw [List.length_map]; omega) ?_
    subst_eqs
    exact h
/-! products -/
/-- the number at k behind i rows -/
def accC (q : Int) (f g : List Int) : Nat → Nat → Int
  | 0, _ => 0
  | i + 1, k => if i ≤ k ∧ k < i + g.length then plusF q (accC q f g i k) (timesF q (cf f i) (cf g (k - i))) else accC q f g i k
theorem cf_set {l : List Int} {i k : Nat} {x : Int} (h : i < l.length) : cf (l.set i x) k = if k = i then x else cf l k := by
  unfold cf
  rw [List.getD_eq_getElem?_getD, List.getD_eq_getElem?_getD]
  by_cases e : k = i
  · subst e
    rw [if_pos rfl, List.getElem?_set_self h]
    rfl
  · rw [if_neg e, List.getElem?_set_ne (fun z => e z.symm)]
theorem ixN_nat {n i : Nat} (h : i < n) : ixN n (i : Int) = some i := by
  unfold ixN
  rw [if_pos (by omega), if_pos (by omega)]
  simp
theorem enum_at : ∀ {l : List D} {k i : Nat} {x : D}, (enumL k l)[i]? = some x → ∃ y, l[i]? = some y ∧ x = .tuple [.int (k + i : Nat), y]
  | [], _, _, _, h => by simp [enumL] at h
  | y :: l, k, 0, x, h => by
    simp [enumL] at h
    exact ⟨y, rfl, by rw [← h]; rfl⟩
  | y :: l, k, i + 1, x, h => by
    have h2 : (enumL (k + 1) l)[i]? = some x := by simpa [enumL] using h
    obtain ⟨z, h3, h4⟩ := enum_at h2
    refine ⟨z, by simpa using h3, ?_⟩
    rw [h4, show k + 1 + i = k + (i + 1) from by omega]
theorem enum_length : ∀ {l : List D} {k : Nat}, (enumL k l).length = l.length
  | [], _ => rfl
  | _ :: l, k => by simp [enumL, enum_length]
theorem dI_set {l : List Int} {i : Nat} {x : Int} : (dI l).set i (.int x) = dI (l.set i x) := by simp [dI, List.map_set]
theorem times_list_spec (H : StW P) {f g : List Int} (hf : NumL q f) (hg : NumL q g) (lf : f.length ≤ 1000) (lg : g.length ≤ 1000) {n : Nat} {Q : RV → List Sl → Prop}
    (h : ∀ l, NumL q l → l.length = f.length + g.length → (∀ k, cf l k = accC q f g f.length k) → Q (.val (.tuple (dI (trimL l)))) [.val (.int q), .val (.tuple (dI f)), .val (.tuple (dI g))]) : CW (cfg P (n + 2)) "one_times" [] [.val (.int q), .val (.tuple (dI f)), .val (.tuple (dI g))] Q := by
  refine CW_pos H.one_times rfl ?_
  show WB (cfg P (n + 1)) f_one_times.body [some (.val (.int q)), some (.val (.tuple (dI f))), some (.val (.tuple (dI g))), none, none, none, none, none] _
  unfold f_one_times
  refine WB_cut (fun e => e = [some (.val (.int q)), some (.val (.tuple (dI f))), some (.val (.tuple (dI g))), some (.own (ofL (dI (List.replicate (f.length + g.length) 0)))), none, none, none, none]) ?_ ?_
  · dsimp! [dI_length]
    have e1 : ((f.length : Int) + g.length).toNat = f.length + g.length := by omega
    rw [e1]
    refine ⟨⟨by omega, by omega, by omega⟩, ?_⟩
    simp [dI]
  rintro _ rfl
  refine WB_cut (fun e => ∃ l x4 x5 x6 x7, NumL q l ∧ l.length = f.length + g.length ∧ (∀ k, cf l k = accC q f g f.length k) ∧ e = [some (.val (.int q)), some (.val (.tuple (dI f))), some (.val (.tuple (dI g))), some (.own (ofL (dI l))), x4, x5, x6, x7]) ?_ ?_
  · subst_eqs
    refine FoW_inv (fun i e => ∃ l x4 x5 x6 x7, NumL q l ∧ l.length = f.length + g.length ∧ (∀ k, cf l k = accC q f g i k) ∧ e = [some (.val (.int q)), some (.val (.tuple (dI f))), some (.val (.tuple (dI g))), some (.own (ofL (dI l))), x4, x5, x6, x7]) ⟨_, none, none, none, none, fun x hx => ?_, by simp, fun k => ?_, rfl⟩ ?_ ?_
    · rw [List.eq_of_mem_replicate hx]
      exact hq.out.zero
    · by_cases g1 : k < f.length + g.length
      · rw [cf_lt (by rw [List.length_replicate]; exact g1), List.getElem_replicate]
        rfl
      · rw [cf_ge (by rw [List.length_replicate]; omega)]
        rfl
    · rintro i x e hx ⟨l, x4, x5, x6, x7, nl, ll, hl, rfl⟩
      obtain ⟨y, hy, rfl⟩ := enum_at hx
      obtain ⟨a, rfl, hy2⟩ := dI_some hy
      have ia := (List.getElem?_eq_some_iff.mp hy2).1
      have ea := cf_some hy2
      rw [OW_set2]
      show WB (cfg P (n + 1)) _ [some (.val (.int q)), some (.val (.tuple (dI f))), some (.val (.tuple (dI g))), some (.own (ofL (dI l))), some (.val (.int (0 + i : Nat))), some (.val (.int a)), x6, x7] _
      subst_eqs
      refine FoW_inv (fun j e => ∃ l2 x6 x7, NumL q l2 ∧ l2.length = f.length + g.length ∧ (∀ k, cf l2 k = if i ≤ k ∧ k < i + j then plusF q (accC q f g i k) (timesF q (cf f i) (cf g (k - i))) else accC q f g i k) ∧ e = [some (.val (.int q)), some (.val (.tuple (dI f))), some (.val (.tuple (dI g))), some (.own (ofL (dI l2))), some (.val (.int i)), some (.val (.int a)), x6, x7]) ⟨l, x6, x7, nl, ll, fun k => ?_, rfl⟩ ?_ ?_
      · rw [hl, if_neg (by omega)]
      · rintro j x e hx ⟨l2, x6, x7, nl2, ll2, hl2, rfl⟩
        obtain ⟨y, hy, rfl⟩ := enum_at hx
        obtain ⟨b, rfl, hy3⟩ := dI_some hy
        have jb := (List.getElem?_eq_some_iff.mp hy3).1
        have eb := cf_some hy3
        have hb : Num q b := hg b (List.mem_of_getElem? hy3)
        have ha : Num q a := hf a (List.mem_of_getElem? hy2)
        have e3 : (i : Int) + j = ((i + j : Nat) : Int) := by omega
        have at1 : atI (dI l2) ((i : Int) + j) = some (.int (cf l2 (i + j))) := by
          rw [e3]
          exact dI_at (by omega)
        have at2 : ixN l2.length ((i : Int) + j) = some (i + j) := by
          rw [e3]
          exact ixN_nat (by omega)
        dsimp! [at1]
        refine times_spec H.times H.glo hq.out ha hb ?_
        subst_eqs
        refine plus_spec H.plus H.glo hq.out (nl2.cf hq.out _) (times_num hq.out ha hb) ?_
        dsimp! [dI_length, at2, dI_set]
        refine ⟨_, _, _, fun x hx => ?_, ?_, fun k => ?_, rfl⟩
        · rcases List.mem_or_eq_of_mem_set hx with hx | rfl
          · exact nl2 x hx
          · exact plus_num hq.out (nl2.cf hq.out _) (times_num hq.out ha hb)
        · rw [List.length_set]; exact ll2
        · rw [cf_set (by omega), hl2, hl2]
          by_cases k1 : k = i + j
          · subst k1
            rw [if_pos rfl, if_neg (by omega), if_pos (by omega), ea, show i + j - i = j from by omega, eb]
          · rw [if_neg k1]
            by_cases k2 : i ≤ k ∧ k < i + j
            · rw [if_pos k2, if_pos (by omega)]
            · rw [if_neg k2, if_neg (by omega)]
      · rintro e ⟨l2, x6, x7, nl2, ll2, hl2, rfl⟩
        rw [enum_length, dI_length] at hl2
        subst_eqs
        exact ⟨l2, _, _, _, _, nl2, ll2, fun k => hl2 k, rfl⟩
    · rintro e ⟨l, x4, x5, x6, x7, nl, ll, hl, rfl⟩
      rw [enum_length, dI_length] at hl
      subst_eqs
      exact ⟨l, _, _, _, _, nl, ll, hl, rfl⟩
  rintro _ ⟨l, x4, x5, x6, x7, nl, ll, hl, rfl⟩
  have hw := H.wf
  subst_eqs
  refine trimmed_spec H.trimmed (by omega) (by omega) ?_
  subst_eqs
  exact h l nl ll hl
end
/-! one polynomial put into another one, of degree 1 (own work) -/
section
variable {P : Prg} {q : Int} [hq : FldI q]
def vL (l : List (El q)) : List Int := l.map El.v
theorem vL_num (l : List (El q)) : NumL q (vL l) := fun x hx => by
  obtain ⟨a, _, rfl⟩ := List.mem_map.mp hx
  exact a.num
theorem vL_len {l : List (El q)} : (vL l).length = l.length := by simp [vL]
def cfE (l : List (El q)) (i : Nat) : El q := l.getD i 0
theorem cf_vL {l : List (El q)} {i : Nat} : cf (vL l) i = (cfE l i).v := by
  unfold cf cfE vL
  rw [List.getD_eq_getElem?_getD, List.getD_eq_getElem?_getD, List.getElem?_map]
  cases l[i]? <;> rfl
/-- k: the number at k of l with x + y t in the place of its letter -/
def horE (x y : El q) : List (El q) → Nat → El q
  | [], _ => 0
  | a :: l, 0 => horE x y l 0 * x + a
  | _ :: l, k + 1 => horE x y l (k + 1) * x + horE x y l k * y
theorem acc2 {r : List Int} {R : Nat → El q} (hR : ∀ k, cf r k = (R k).v) {x y : El q} : ∀ i k, accC q r [x.v, y.v] i k = ((if k < i then R k * x else 0) + (if 1 ≤ k ∧ k ≤ i then R (k - 1) * y else 0)).v
  | 0, k => by
    rw [if_neg (by omega), if_neg (by omega)]
    show (0 : Int) = ((0 : El q) + 0).v
    rw [elSemi.add_zero]
    rfl
  | i + 1, k => by
    show (if i ≤ k ∧ k < i + 2 then plusF q (accC q r [x.v, y.v] i k) (timesF q (cf r i) (cf [x.v, y.v] (k - i))) else accC q r [x.v, y.v] i k) = _
    rw [acc2 hR i k, hR]
    by_cases h1 : k = i
    · subst h1
      rw [if_pos (by omega), if_neg (by omega), if_pos (show k < k + 1 by omega), Nat.sub_self]
      show (((0 : El q) + (if 1 ≤ k ∧ k ≤ k then R (k - 1) * y else 0)) + R k * x).v = _
      by_cases h2 : 1 ≤ k
      · rw [if_pos (by omega), if_pos (by omega)]
        exact congrArg El.v (by grind)
      · rw [if_neg (by omega), if_neg (by omega)]
        exact congrArg El.v (by grind)
    · by_cases h2 : k = i + 1
      · subst h2
        rw [if_pos (by omega), if_neg (by omega), if_neg (by omega), if_neg (by omega), if_pos (by omega), show i + 1 - i = 1 from by omega]
        show (((0 : El q) + 0) + R i * y).v = ((0 : El q) + R (i + 1 - 1) * y).v
        rw [show i + 1 - 1 = i from by omega]
        exact congrArg El.v (by grind)
      · rw [if_neg (by omega)]
        by_cases h3 : k < i
        · rw [if_pos h3, if_pos (show k < i + 1 by omega)]
          by_cases h4 : 1 ≤ k
          · rw [if_pos (show 1 ≤ k ∧ k ≤ i by omega), if_pos (show 1 ≤ k ∧ k ≤ i + 1 by omega)]
          · rw [if_neg (show ¬ (1 ≤ k ∧ k ≤ i) by omega), if_neg (show ¬ (1 ≤ k ∧ k ≤ i + 1) by omega)]
        · rw [if_neg h3, if_neg (show ¬ k < i + 1 by omega), if_neg (show ¬ (1 ≤ k ∧ k ≤ i) by omega), if_neg (show ¬ (1 ≤ k ∧ k ≤ i + 1) by omega)]
/-- so many numbers of a product -/
theorem acc2_all {r : List Int} {R : Nat → El q} (hR : ∀ k, cf r k = (R k).v) {x y : El q} (k : Nat) : accC q r [x.v, y.v] r.length k = (R k * x + (match k with | 0 => 0 | k + 1 => R k * y)).v := by
  have z : ∀ k, r.length ≤ k → R k = 0 := fun k hk => El.ext (by rw [← hR, cf_ge hk]; rfl)
  rw [acc2 hR]
  refine congrArg El.v ?_
  have a : (if k < r.length then R k * x else 0) = R k * x := by
    by_cases h : k < r.length
    · rw [if_pos h]
    · rw [if_neg h, z k (by omega), elSemi.zero_mul]
  rw [a]
  cases k with
  | zero => rfl
  | succ k =>
    by_cases h : k < r.length
    · rw [if_pos (by omega)]
      rfl
    · rw [if_neg (by omega)]
      show _ = _ + R k * y
      rw [z k (by omega), elSemi.zero_mul]
theorem rev_take_succ {α : Type} {l : List α} {i : Nat} {x : α} (h : l.reverse[i]? = some x) : (l.reverse.take (i + 1)).reverse = x :: (l.reverse.take i).reverse := by
  rw [List.take_add_one, h]
  simp
theorem dI_reverse {l : List Int} : (dI l).reverse = dI l.reverse := by simp [dI]
theorem vL_reverse {l : List (El q)} : (vL l).reverse = vL l.reverse := by simp [vL]
theorem vL_some {l : List (El q)} {i : Nat} {x : Int} (h : (vL l)[i]? = some x) : ∃ a, x = a.v ∧ l[i]? = some a := by
  unfold vL at h
  rw [List.getElem?_map] at h
  cases g : l[i]? with
  | none => rw [g] at h; cases h
  | some c => rw [g] at h; cases h; exact ⟨c, rfl, rfl⟩
theorem put_spec (H : StW P) {l : List (El q)} (ll : l.length ≤ 100) {x y : El q} {n : Nat} {Q : RV → List Sl → Prop}
    (h : ∀ r, Trim r → NumL q r → r.length ≤ 200 → (∀ k, cf r k = (horE x y l k).v) → Q (.val (.tuple (dI r))) [.val (.int q), .val (.tuple (dI (vL l))), .val (.tuple (dI [x.v, y.v]))]) :
    CW (cfg P (n + 3)) "one_put" [] [.val (.int q), .val (.tuple (dI (vL l))), .val (.tuple (dI [x.v, y.v]))] Q := by
  refine CW_pos H.one_put rfl ?_
  show WB (cfg P (n + 2)) f_one_put.body [some (.val (.int q)), some (.val (.tuple (dI (vL l)))), some (.val (.tuple (dI [x.v, y.v]))), none, none] _
  unfold f_one_put
  have hw := H.wf
  subst_eqs
  refine FoW_inv (fun i e => ∃ r x4, Trim r ∧ NumL q r ∧ r.length ≤ 2 * i ∧ (∀ k, cf r k = (horE x y (l.reverse.take i).reverse k).v) ∧ e = [some (.val (.int q)), some (.val (.tuple (dI (vL l)))), some (.val (.tuple (dI [x.v, y.v]))), some (.val (.tuple (dI r))), x4]) ⟨[], none, .inl rfl, fun x hx => (by cases hx), Nat.le_refl _, fun k => rfl, rfl⟩ ?_ ?_
  · rintro i z e hx ⟨r, x4, r1, r2, r3, r4, rfl⟩
    rw [dI_reverse, vL_reverse] at hx
    obtain ⟨a, rfl, hx2⟩ := dI_some hx
    obtain ⟨a, rfl, hx3⟩ := vL_some hx2
    have il := (List.getElem?_eq_some_iff.mp hx3).1
    rw [List.length_reverse] at il
    subst_eqs
    have n1 : NumL q [x.v, y.v] := fun z hz => by
      simp only [List.mem_cons, List.not_mem_nil, or_false] at hz
      rcases hz with rfl | rfl
      · exact x.num
      · exact y.num
    refine times_list_spec H r2 n1 (by omega) (by simp) fun m m1 m2 m3 => ?_
    subst_eqs
    refine trimmed_spec (l := [a.v]) H.trimmed (by simp; omega) (by simp) ?_
    subst_eqs
    have n2 : NumL q (trimL [a.v]) := NumL.trim fun z hz => by
      rw [List.mem_singleton.mp hz]
      exact a.num
    have l1 := trim_len (l := m)
    have l2 := trim_len (l := [a.v])
    rw [m2] at l1
    simp only [List.length_cons, List.length_nil] at l1 l2
    refine one_plus_spec H m1.trim n2 (by omega) (by omega) ?_
    subst_eqs
    refine ⟨_, _, trim_trim _, (NumL.add m1.trim n2).trim, ?_, fun k => ?_, rfl⟩
    · have := trim_len (l := addR q (trimL m) (trimL [a.v]))
      have e : (addR q (trimL m) (trimL [a.v])).length = max (trimL m).length (trimL [a.v]).length := by simp [addR]
      omega
    · rw [cf_trim, cf_addR, cf_trim, cf_trim, m3, acc2_all r4, rev_take_succ hx3]
      cases k with
      | zero =>
        show (_ * x + 0 + a).v = (_ * x + a).v
        exact congrArg El.v (by rw [elSemi.add_zero])
      | succ k =>
        show (_ + (0 : El q)).v = _
        rw [elSemi.add_zero]
        rfl
  · rintro e ⟨r, x4, r1, r2, r3, r4, rfl⟩
    rw [dI_reverse, vL_reverse, dI_length, vL_len, List.length_reverse] at r3 r4
    subst_eqs
    have e : (l.reverse.take l.length).reverse = l := by
      rw [show l.length = l.reverse.length from List.length_reverse.symm, List.take_length, List.reverse_reverse]
    rw [e] at r4
    exact h r r1 r2 (by omega) r4
end
/-! straight maps and bends as data (own work) -/
section
variable {P : Prg} {q : Int} [hq : FldI q]
open ST
theorem at0 {α : Type} {a : α} {l : List α} : atI (a :: l) 0 = some a := atI_nat (i := 0)
theorem at1 {α : Type} {a b : α} {l : List α} : atI (a :: b :: l) 1 = some b := atI_nat (i := 1)
theorem at2 {α : Type} {a b c : α} {l : List α} : atI (a :: b :: c :: l) 2 = some c := atI_nat (i := 2)
theorem at3 {α : Type} {a b c d : α} {l : List α} : atI (a :: b :: c :: d :: l) 3 = some d := atI_nat (i := 3)
theorem at4 {α : Type} {a b c d e : α} {l : List α} : atI (a :: b :: c :: d :: e :: l) 4 = some e := atI_nat (i := 4)
theorem at5 {α : Type} {a b c d e f : α} {l : List α} : atI (a :: b :: c :: d :: e :: f :: l) 5 = some f := atI_nat (i := 5)
theorem cut3a {a b c d e f : D} : cut [a, b, c, d, e, f] none (some 3) = [a, b, c] := rfl
theorem cut3b {a b c d e f : D} : cut [a, b, c, d, e, f] (some 3) none = [d, e, f] := rfl
theorem cut_lo {xs : List D} {lo : Nat} : cut xs (some (lo : Int)) none = xs.drop lo := by
  unfold cut
  rw [HT.sIx_nat, HT.sIx_none]
  by_cases h : lo ≤ xs.length
  · rw [Nat.min_eq_left h]
    exact List.take_of_length_le (by rw [List.length_drop]; omega)
  · rw [Nat.min_eq_right (by omega), List.drop_length, List.drop_of_length_le (by omega)]
    simp
/-- a straight map -/
def mD (m : Mp (El q)) : D := .tuple [.int m.a.v, .int m.b.v, .int m.c.v, .int m.d.v, .int m.e.v, .int m.f.v]
theorem determinant_spec (H : StW P) (m : Mp (El q)) {n : Nat} {Q : RV → List Sl → Prop} (h : Q (.val (.int m.det.v)) [.val (.int q), .val (mD m)]) : CW (cfg P (n + 3)) "map_determinant" [] [.val (.int q), .val (mD m)] Q := by
  refine CW_pos H.map_determinant rfl ?_
  show WB (cfg P (n + 2)) f_map_determinant.body [some (.val (.int q)), some (.val (mD m))] _
  unfold f_map_determinant mD
  dsimp! [at0, at1, at2, at3, at4, at5]
  refine el_times H m.a m.e ?_
  dsimp! [at0, at1, at2, at3, at4, at5]
  refine el_times H m.b m.d ?_
  subst_eqs
  refine el_minus H (m.a * m.e) (m.b * m.d) ?_
  subst_eqs
  exact h
theorem turn_spec (H : StW P) (e : El q) {n : Nat} {Q : RV → List Sl → Prop} (h : Q (.val (mD (tm e))) [.val (.int e.v)]) : CW (cfg P (n + 1)) "turn_map" [] [.val (.int e.v)] Q := by
  refine CW_pos H.turn_map rfl ?_
  show WB (cfg P n) f_turn_map.body [some (.val (.int e.v))] _
  unfold f_turn_map
  subst_eqs
  exact h
theorem sop_spec (H : StW P) (a b c d : El q) {n : Nat} {Q : RV → List Sl → Prop} (h : Q (.val (.int (a * b + c * d).v)) [.val (.int q), .val (.int a.v), .val (.int b.v), .val (.int c.v), .val (.int d.v)]) :
    CW (cfg P (n + 2)) "sum_of_products" [] [.val (.int q), .val (.int a.v), .val (.int b.v), .val (.int c.v), .val (.int d.v)] Q := by
  refine CW_pos H.sum_of_products rfl ?_
  show WB (cfg P (n + 1)) f_sum_of_products.body [some (.val (.int q)), some (.val (.int a.v)), some (.val (.int b.v)), some (.val (.int c.v)), some (.val (.int d.v))] _
  unfold f_sum_of_products
  subst_eqs
  refine el_times H a b ?_
  subst_eqs
  refine el_times H c d ?_
  subst_eqs
  refine el_plus H (a * b) (c * d) ?_
  subst_eqs
  exact h
theorem thn_spec (H : StW P) (x y : Mp (El q)) {n : Nat} {Q : RV → List Sl → Prop} (h : Q (.val (mD (x.thn y))) [.val (.int q), .val (mD x), .val (mD y)]) : CW (cfg P (n + 3)) "straight_then" [] [.val (.int q), .val (mD x), .val (mD y)] Q := by
  refine CW_pos H.straight_then rfl ?_
  show WB (cfg P (n + 2)) f_straight_then.body [some (.val (.int q)), some (.val (mD x)), some (.val (mD y)), none, none, none, none, none, none, none, none, none, none] _
  unfold f_straight_then mD
  dsimp! [cut3a, cut3b, FoW_cons, FoW_nil]
  refine sop_spec H y.a x.a y.b x.d ?_
  subst_eqs
  refine sop_spec H y.a x.b y.b x.e ?_
  subst_eqs
  refine sop_spec H y.a x.c y.b x.f ?_
  subst_eqs
  refine el_plus H (y.a * x.c + y.b * x.f) y.c ?_
  dsimp! [cut3a, cut3b, FoW_cons, FoW_nil]
  refine sop_spec H y.d x.a y.e x.d ?_
  subst_eqs
  refine sop_spec H y.d x.b y.e x.e ?_
  subst_eqs
  refine sop_spec H y.d x.c y.e x.f ?_
  subst_eqs
  refine el_plus H (y.d * x.c + y.e * x.f) y.f ?_
  dsimp! [cut3a, cut3b, FoW_cons, FoW_nil]
  exact h
theorem back_spec (H : StW P) (m : Mp (El q)) (hm : m.det ≠ 0) {n : Nat} {Q : RV → List Sl → Prop} (h : Q (.val (mD m.inv)) [.val (.int q), .val (mD m)]) : CW (cfg P (n + 4)) "straight_back" [] [.val (.int q), .val (mD m)] Q := by
  refine CW_pos H.straight_back rfl ?_
  show WB (cfg P (n + 3)) f_straight_back.body [some (.val (.int q)), some (.val (mD m)), none, none, none, none, none, none] _
  unfold f_straight_back
  subst_eqs
  refine determinant_spec H m ?_
  subst_eqs
  refine el_inverse H m.det hm ?_
  unfold mD
  dsimp! [at0, at1, at2, at3, at4, at5]
  refine el_times H m.e m.det⁻¹ ?_
  dsimp! [at0, at1, at2, at3, at4, at5]
  refine el_times H m.b m.det⁻¹ ?_
  dsimp! [at0, at1, at2, at3, at4, at5]
  refine el_opposite H (m.b * m.det⁻¹) ?_
  dsimp! [at0, at1, at2, at3, at4, at5]
  refine el_times H m.d m.det⁻¹ ?_
  dsimp! [at0, at1, at2, at3, at4, at5]
  refine el_opposite H (m.d * m.det⁻¹) ?_
  dsimp! [at0, at1, at2, at3, at4, at5]
  refine el_times H m.a m.det⁻¹ ?_
  dsimp! [at0, at1, at2, at3, at4, at5]
  refine sop_spec H (m.e * m.det⁻¹) m.c (-(m.b * m.det⁻¹)) m.f ?_
  dsimp! [at0, at1, at2, at3, at4, at5]
  refine el_opposite H (m.e * m.det⁻¹ * m.c + -(m.b * m.det⁻¹) * m.f) ?_
  dsimp! [at0, at1, at2, at3, at4, at5]
  refine sop_spec H (-(m.d * m.det⁻¹)) m.c (m.a * m.det⁻¹) m.f ?_
  dsimp! [at0, at1, at2, at3, at4, at5]
  refine el_opposite H (-(m.d * m.det⁻¹) * m.c + m.a * m.det⁻¹ * m.f) ?_
  subst_eqs
  exact h
theorem tm_inv_thn {m : Mp (El q)} {r : El q} (h : m.e = r * m.d) : (tm r).inv.thn m = ST.rest m r := by
  have k : (-1 : El q) * (-1 : El q)⁻¹ = 1 := Lean.Grind.Field.mul_inv_cancel fun z => one_ne (K := El q) (by grind)
  have e : (tm r).det = -1 := by
    simp only [tm, Mp.det]
    grind
  have z : (tm r).det⁻¹ = -1 := by
    rw [e]
    generalize (-1 : El q)⁻¹ = i at *
    grind
  have ei : (tm r).inv = ⟨-r, 1, 0, 1, 0, 0⟩ := by
    simp only [Mp.inv, z]
    simp only [tm, Mp.mk.injEq]
    refine ⟨?_, ?_, ?_, ?_, ?_, ?_⟩ <;> grind
  rw [ei]
  simp only [Mp.thn, ST.rest, Mp.mk.injEq]
  refine ⟨?_, ?_, ?_, ?_, ?_, ?_⟩ <;> grind
def tI : Option (El q) → Int
  | none => -1
  | some e => e.v
theorem ne0_v {a : El q} : a.v = 0 ↔ a = 0 := ⟨fun h => El.ext h, fun h => by rw [h]; rfl⟩
theorem split_spec (H : StW P) (m : Mp (El q)) {n : Nat} {Q : RV → List Sl → Prop} (h : Q (.val (.tuple [.int (tI (split m).1), mD (split m).2])) [.val (.int q), .val (mD m)]) : CW (cfg P (n + 5)) "split_map" [] [.val (.int q), .val (mD m)] Q := by
  refine CW_pos H.split_map rfl ?_
  show WB (cfg P (n + 4)) f_split_map.body [some (.val (.int q)), some (.val (mD m)), none] _
  unfold f_split_map
  rw [show mD m = PyData.tuple [.int m.a.v, .int m.b.v, .int m.c.v, .int m.d.v, .int m.e.v, .int m.f.v] from rfl]
  dsimp! [at0, at1, at2, at3, at4, at5]
  refine ⟨fun h0 => ?_, fun h0 => ?_⟩
  · unfold split at h
    rw [if_pos (ne0_v.mp h0)] at h
    exact h
  · have h1 : m.d ≠ 0 := fun z => h0 (ne0_v.mpr z)
    unfold split at h
    rw [if_neg h1] at h
    refine el_inverse (n := n + 1) H m.d h1 ?_
    dsimp! [at0, at1, at2, at3, at4, at5]
    refine el_times H m.e m.d⁻¹ ?_
    subst_eqs
    refine turn_spec H (m.e * m.d⁻¹) ?_
    subst_eqs
    refine back_spec H (tm (m.e * m.d⁻¹)) (det_tm _) ?_
    subst_eqs
    refine thn_spec (n := n + 1) H _ m ?_
    subst_eqs
    rw [tm_inv_thn (by
      have k := Lean.Grind.Field.mul_inv_cancel h1
      generalize m.d⁻¹ = i at *
      grind)]
    exact h
theorem num_ne {a : Int} (h : Num q a) : a ≠ -1 := fun z => by have := h.1; omega
theorem turned_spec (H : StW P) (t : Option (El q)) (m : Mp (El q)) {n : Nat} {Q : RV → List Sl → Prop} (h : Q (.val (mD (turnd t m))) [.val (.int q), .val (.int (tI t)), .val (mD m)]) : CW (cfg P (n + 4)) "turned_map" [] [.val (.int q), .val (.int (tI t)), .val (mD m)] Q := by
  refine CW_pos H.turned_map rfl ?_
  show WB (cfg P (n + 3)) f_turned_map.body [some (.val (.int q)), some (.val (.int (tI t))), some (.val (mD m))] _
  unfold f_turned_map
  cases t with
  | none =>
    rw [show tI (none : Option (El q)) = -1 from rfl] at h ⊢
    subst_eqs
    exact ⟨h, fun z => z.elim⟩
  | some e =>
    rw [show tI (some e) = e.v from rfl] at h ⊢
    subst_eqs
    refine ⟨fun z => absurd z (num_ne e.num), fun _ => ?_⟩
    refine turn_spec H e ?_
    subst_eqs
    refine thn_spec H _ m ?_
    subst_eqs
    exact h
/-! bends -/
def b7 (p : Bd (El q)) : List (El q) := [0, 0, p.c2, p.c3, p.c4, p.c5, p.c6]
def bL (p : Bd (El q)) : List Int := trimL (vL (b7 p))
def bD (p : Bd (El q)) : D := .tuple (dI (bL p))
theorem bL_num (p : Bd (El q)) : NumL q (bL p) := (vL_num _).trim
theorem bL_cf (p : Bd (El q)) (k : Nat) : cf (bL p) k = (cfE (b7 p) k).v := by rw [bL, cf_trim, cf_vL]
theorem bL_len (p : Bd (El q)) : (bL p).length ≤ 7 := by
  have := trim_len (l := vL (b7 p))
  rw [vL_len] at this
  exact this
theorem num_vL : ∀ {l : List Int}, NumL q l → ∃ m : List (El q), vL m = l
  | [], _ => ⟨[], rfl⟩
  | x :: l, h => by
    obtain ⟨m, hm⟩ := num_vL (l := l) fun y hy => h y (List.mem_cons_of_mem _ hy)
    exact ⟨⟨x, h x List.mem_cons_self⟩ :: m, congrArg (x :: ·) hm⟩
theorem hor_zero {x y : El q} : ∀ {l : List (El q)} {k : Nat}, (∀ i, cfE l i = 0) → horE x y l k = 0
  | [], _, _ => rfl
  | a :: l, 0, h => by
    have ha : a = 0 := h 0
    show horE x y l 0 * x + a = 0
    rw [hor_zero (l := l) fun i => h (i + 1), ha, elSemi.zero_mul, elSemi.add_zero]
  | a :: l, k + 1, h => by
    show horE x y l (k + 1) * x + horE x y l k * y = 0
    rw [hor_zero (l := l) fun i => h (i + 1), hor_zero (l := l) fun i => h (i + 1), elSemi.zero_mul, elSemi.zero_mul, elSemi.add_zero]
theorem hor_cf {x y : El q} : ∀ {l m : List (El q)} {k : Nat}, (∀ i, cfE l i = cfE m i) → horE x y l k = horE x y m k
  | [], m, k, h => (hor_zero fun i => (h i).symm).symm
  | a :: l, [], k, h => hor_zero h
  | a :: l, b :: m, 0, h => by
    have : a = b := h 0
    show horE x y l 0 * x + a = horE x y m 0 * x + b
    rw [hor_cf (l := l) (m := m) fun i => h (i + 1), this]
  | a :: l, b :: m, k + 1, h => by
    show horE x y l (k + 1) * x + horE x y l k * y = horE x y m (k + 1) * x + horE x y m k * y
    rw [hor_cf (l := l) (m := m) fun i => h (i + 1), hor_cf (l := l) (m := m) fun i => h (i + 1)]
theorem hor_ge {x y : El q} : ∀ {l : List (El q)} {k : Nat}, l.length ≤ k → horE x y l k = 0
  | [], _, _ => rfl
  | a :: l, k + 1, h => by
    show horE x y l (k + 1) * x + horE x y l k * y = 0
    have h2 : l.length ≤ k := by simpa using h
    rw [hor_ge (show l.length ≤ k + 1 by omega), hor_ge h2, elSemi.zero_mul, elSemi.zero_mul, elSemi.add_zero]
theorem hor7 {x y : El q} (p : Bd (El q)) (k : Nat) : horE x y (b7 p) k = cfE [p.s0 x, p.s1 y x, (p.hi y x).c2, (p.hi y x).c3, (p.hi y x).c4, (p.hi y x).c5, (p.hi y x).c6] k := by
  match k with
  | 0 | 1 | 2 | 3 | 4 | 5 | 6 =>
    simp only [b7, horE, cfE, Bd.s0, Bd.s1, Bd.hi, List.getD_cons_zero, List.getD_cons_succ]
    grind
  | k + 7 =>
    rw [hor_ge (by simp [b7])]
    rfl
end
/-! bends behind maps; steps as data (own work) -/
section
variable {P : Prg} {q : Int} [hq : FldI q]
open ST
theorem bL_trim (p : Bd (El q)) : Trim (bL p) := trim_trim _
theorem bL_ext {p : Bd (El q)} {l : List Int} (hl : Trim l) (h : ∀ k, cf l k = (cfE (b7 p) k).v) : l = bL p :=
  trim_eq hl (bL_trim p) fun k => by rw [h, bL_cf]
theorem bL_of {p : Bd (El q)} {l : List Int} (h : ∀ k, cf l k = (cfE (b7 p) k).v) : trimL l = bL p :=
  bL_ext (trim_trim l) fun k => by rw [cf_trim, h]
theorem cfE7 {a b c d e f g : El q} : ∀ k, (cfE [a, b, c, d, e, f, g] (k + 7)) = 0 := fun k => rfl
theorem bL_inj {p r : Bd (El q)} (h : bL p = bL r) : p = r := by
  have k : ∀ i, cfE (b7 p) i = cfE (b7 r) i := fun i => El.ext (by rw [← bL_cf, ← bL_cf, h])
  obtain ⟨a, b, c, d, e⟩ := p
  obtain ⟨a', b', c', d', e'⟩ := r
  rw [show a = a' from k 2, show b = b' from k 3, show c = c' from k 4, show d = d' from k 5, show e = e' from k 6]
theorem bL_zero : bL (Bd.zero : Bd (El q)) = [] := rfl
theorem bL_nil {p : Bd (El q)} : bL p = [] ↔ p = Bd.zero := ⟨fun h => bL_inj (h.trans bL_zero.symm), fun h => by rw [h, bL_zero]⟩
theorem cf_cons2 {x y : Int} {l : List Int} (k : Nat) : cf (x :: y :: l.drop 2) k = if k = 0 then x else if k = 1 then y else cf l k := by
  match k with
  | 0 => rfl
  | 1 => rfl
  | k + 2 =>
    rw [if_neg (by omega), if_neg (by omega)]
    unfold cf
    rw [List.getD_cons_succ, List.getD_cons_succ, List.getD_eq_getElem?_getD, List.getD_eq_getElem?_getD, List.getElem?_drop, Nat.add_comm]
theorem low_at {l : List Int} {k : Nat} (h : k < 2) : atI (dI (l.take 2) ++ [.int 0, .int 0]) (k : Int) = some (.int (cf l k)) := by
  have e : dI (l.take 2) ++ [.int 0, .int 0] = dI (l.take 2 ++ [0, 0]) := by simp [dI]
  have n : k < (l.take 2 ++ [0, 0]).length := by simp; omega
  rw [e, dI_at n]
  congr 2
  rw [cf_lt n]
  by_cases g : k < l.length
  · rw [List.getElem_append_left (by rw [List.length_take]; omega), List.getElem_take, cf_lt g]
  · rw [cf_ge (by omega)]
    have : ∀ l : List Int, l.length ≤ k → ∀ n : k < (l.take 2 ++ [0, 0]).length, (l.take 2 ++ [0, 0])[k] = 0 := fun l hl n => by
      match l, k, hl, h, n with
      | [], 0, _, _, _ => rfl
      | [], 1, _, _, _ => rfl
      | [x], 1, _, _, _ => rfl
      | x :: y :: l, k, hl, h, n => simp at hl; omega
    exact this l (by omega) n
theorem through_spec (H : StW P) {m : Mp (El q)} (hm : Low m) (p : Bd (El q)) {n : Nat} {Q : RV → List Sl → Prop} (h : Q (.val (.tuple [bD (bt m p).1, mD (bt m p).2])) [.val (.int q), .val (mD m), .val (bD p)]) :
    CW (cfg P (n + 4)) "bend_through" [] [.val (.int q), .val (mD m), .val (bD p)] Q := by
  refine CW_pos H.bend_through rfl ?_
  show WB (cfg P (n + 3)) f_bend_through.body [some (.val (.int q)), some (.val (mD m)), some (.val (bD p)), none, none, none, none, none, none, none, none, none] _
  unfold f_bend_through
  have hw := H.wf
  rw [show mD m = PyData.tuple [.int m.a.v, .int m.b.v, .int m.c.v, .int m.d.v, .int m.e.v, .int m.f.v] from rfl]
  have te : trimL [m.f.v, m.e.v] = [m.f.v, m.e.v] := trim_same (.inr ⟨[m.f.v], m.e.v, rfl, El.ne_v hm.e⟩)
  obtain ⟨l, hl⟩ := num_vL (bL_num p)
  have ll : l.length ≤ 7 := by rw [← vL_len, hl]; exact bL_len p
  have lc : ∀ k, cfE l k = cfE (b7 p) k := fun k => El.ext (by rw [← cf_vL, hl, bL_cf])
  subst_eqs
  refine trimmed_spec (l := [m.f.v, m.e.v]) H.trimmed (by simp; omega) (by simp) ?_
  subst_eqs
  rw [te, show bD p = PyData.tuple (dI (vL l)) from by rw [hl]; rfl]
  refine put_spec (x := m.f) (y := m.e) H (l := l) (by omega) fun r r1 r2 r3 r4 => ?_
  have rc : ∀ k, cf r k = (cfE [p.s0 m.f, p.s1 m.e m.f, (p.hi m.e m.f).c2, (p.hi m.e m.f).c3, (p.hi m.e m.f).c4, (p.hi m.e m.f).c5, (p.hi m.e m.f).c6] k).v := fun k => by
    rw [r4, hor_cf lc, hor7]
  have c2 : cut (dI r) none (some 2) = dI (r.take 2) := by
    have := cut_hi (xs := dI r) (hi := 2)
    rw [dI_take] at this
    exact this
  have c3 : cut (dI r) (some 2) none = dI (r.drop 2) := by
    have := cut_lo (xs := dI r) (lo := 2)
    exact this.trans (by simp [dI, List.map_drop])
  have a0 := low_at (l := r) (k := 0) (by omega)
  have a1 := low_at (l := r) (k := 1) (by omega)
  have e2 : (PyData.int 0) :: (PyData.int 0) :: dI (r.drop 2) = dI (0 :: 0 :: r.drop 2) := rfl
  have n2 : NumL q (0 :: 0 :: r.drop 2) := fun z hz => by
    rcases List.mem_cons.mp hz with rfl | hz
    · exact hq.out.zero
    · rcases List.mem_cons.mp hz with rfl | hz
      · exact hq.out.zero
      · exact r2 z (List.mem_of_mem_drop hz)
  have fin : trimL ((0 :: 0 :: r.drop 2).map fun x => timesF q x (m.a⁻¹).v) = bL (bt m p).1 := by
    refine bL_of fun k => ?_
    rw [cf_map (f := fun x => timesF q x (m.a⁻¹).v) (zero_times hq.out (m.a⁻¹).num), cf_cons2, rc]
    match k with
    | 0 => exact zero_times hq.out (m.a⁻¹).num
    | 1 => exact zero_times hq.out (m.a⁻¹).num
    | 2 | 3 | 4 | 5 | 6 => exact times_comm hq.out (El.num _) (m.a⁻¹).num
    | k + 7 => exact zero_times hq.out (m.a⁻¹).num
  dsimp! [c2, c3, e2]
  refine ⟨by rw [dI_length, List.length_take]; omega, by rw [dI_length, List.length_drop]; omega, ?_⟩
  refine el_inverse H m.a hm.a ?_
  dsimp! [c2, c3, e2]
  refine scaled_spec (n := n + 1) H n2 (by simp; omega) (m.a⁻¹).num ?_
  rw [fin]
  dsimp! [c2, c3, show atI (dI (r.take 2) ++ [.int 0, .int 0]) 1 = some (.int (cf r 1)) from a1, show atI (dI (r.take 2) ++ [.int 0, .int 0]) 0 = some (.int (cf r 0)) from a0]
  rw [rc, show cfE [p.s0 m.f, p.s1 m.e m.f, (p.hi m.e m.f).c2, (p.hi m.e m.f).c3, (p.hi m.e m.f).c4, (p.hi m.e m.f).c5, (p.hi m.e m.f).c6] 1 = p.s1 m.e m.f from rfl]
  refine el_plus H m.b (p.s1 m.e m.f) ?_
  dsimp! [c2, c3, show atI (dI (r.take 2) ++ [.int 0, .int 0]) 1 = some (.int (cf r 1)) from a1, show atI (dI (r.take 2) ++ [.int 0, .int 0]) 0 = some (.int (cf r 0)) from a0]
  rw [rc, show cfE [p.s0 m.f, p.s1 m.e m.f, (p.hi m.e m.f).c2, (p.hi m.e m.f).c3, (p.hi m.e m.f).c4, (p.hi m.e m.f).c5, (p.hi m.e m.f).c6] 0 = p.s0 m.f from rfl]
  refine el_plus H m.c (p.s0 m.f) ?_
  subst_eqs
  rw [show PyData.tuple (dI (vL l)) = bD p from by rw [hl]; rfl] at *
  exact h
end
/-! steps as data; pieces behind steps (own work) -/
section
variable {P : Prg} {q : Int} [hq : FldI q]
open ST
abbrev Stk (q : Int) := List (Bd (El q) × Option (El q))
def fw (st : Stk q) : Stk q := st.reverse
def bsL (st : Stk q) : List D := (fw st).map fun x => bD x.1
def tsA (st : Stk q) : List Int := (fw st).map fun x => tI x.2
def tsL (st : Stk q) : List Int := (tsA st).tail
def s0 (st : Stk q) : Int := (tsA st).headD (-1)
def stepD (s : Stp (El q)) : D := .tuple [.int (s0 s.st), .tuple (bsL s.st), .tuple (dI (tsL s.st)), mD s.last]
def pcD : Pc (El q) → D
  | .str m => .tuple [.str "straight", mD m]
  | .bnd p => .tuple [.str "bend", bD p]
def rowD (r : List (Pc (El q))) : List D := r.map pcD
theorem fw_cons {x : Bd (El q) × Option (El q)} {st : Stk q} : fw (x :: st) = fw st ++ [x] := List.reverse_cons
theorem bs_cons {x : Bd (El q) × Option (El q)} {st : Stk q} : bsL (x :: st) = bsL st ++ [bD x.1] := by simp [bsL, fw_cons]
theorem ts_one {x : Bd (El q) × Option (El q)} : tsL [x] = [] := rfl
theorem tsA_cons {x : Bd (El q) × Option (El q)} {st : Stk q} : tsA (x :: st) = tsA st ++ [tI x.2] := by simp [tsA, fw_cons]
theorem tsA_ne {x : Bd (El q) × Option (El q)} {st : Stk q} : tsA (x :: st) ≠ [] := by rw [tsA_cons]; simp
theorem ts_cons {x y : Bd (El q) × Option (El q)} {st : Stk q} : tsL (x :: y :: st) = tsL (y :: st) ++ [tI x.2] := by
  unfold tsL
  rw [tsA_cons (x := x), List.tail_append_of_ne_nil tsA_ne]
theorem s0_one {x : Bd (El q) × Option (El q)} : s0 [x] = tI x.2 := rfl
theorem s0_cons {x y : Bd (El q) × Option (El q)} {st : Stk q} : s0 (x :: y :: st) = s0 (y :: st) := by
  unfold s0
  rw [tsA_cons (x := x)]
  cases h : tsA (y :: st) with
  | nil => exact absurd h tsA_ne
  | cons a l => rfl
theorem bs_len {st : Stk q} : (bsL st).length = st.length := by simp [bsL, fw]
theorem tsA_len {st : Stk q} : (tsA st).length = st.length := by simp [tsA, fw]
theorem ts_len {st : Stk q} : (tsL st).length = st.length - 1 := by rw [tsL, List.length_tail, tsA_len]
theorem step_nil : stepD (ST.nil : Stp (El q)) = cNOTHING := rfl
theorem at_last {α : Type} {l : List α} {x : α} : atI (l ++ [x]) (-1) = some x := by
  have e : ixN (l ++ [x]).length (-1) = some l.length := by
    unfold ixN
    rw [if_neg (by omega), if_pos (by simp; omega)]
    congr 1
    simp
    omega
  unfold atI
  rw [e]
  simp
theorem cut_init {l : List D} {x : D} : cut (l ++ [x]) none (some (-1)) = l := by
  unfold cut
  have e : HT.sIx (l ++ [x]).length (l ++ [x]).length (some (-1)) = l.length := by
    simp [HT.sIx]
    omega
  rw [e, HT.sIx_none]
  simp
theorem eq_empty {l : List D} (h : SeqAt.shaped (.tuple l) = true) : cmpR .eq (.tuple l) (.tuple []) = some (decide (l = [])) := by
  have s : SeqAt.shaped (.tuple []) = true := by decide
  simp only [cmpR, eqD, h, s, Bool.and_self, if_true, PyData.eqv]
  cases l <;> simp [PyData.eqvAll]
theorem ne_empty {l : List D} (h : SeqAt.shaped (.tuple l) = true) : cmpR .ne (.tuple l) (.tuple []) = some (!decide (l = [])) := by
  have := eq_empty h
  simp only [cmpR] at this ⊢
  rw [this]
  rfl
theorem flat_bD {n : Nat} (p : Bd (El q)) : flat (n + 1) (bD p) = true := flat_tuple flat_ints
theorem flat_bs {n : Nat} (st : Stk q) : ∀ d ∈ bsL st, flat (n + 1) d = true := fun d hd => by
  obtain ⟨x, _, rfl⟩ := List.mem_map.mp hd
  exact flat_bD _
theorem bs_shaped (st : Stk q) : SeqAt.shaped (.tuple (bsL st)) = true := shaped_of_flat (flat_tuple (n := 1) (flat_bs st)) (by decide)
theorem addL_bL (p r : Bd (El q)) : addL q (bL p) (bL r) = bL (p.add r) := by
  refine bL_of fun k => ?_
  rw [cf_addR, bL_cf, bL_cf]
  match k with
  | 0 => exact plus_00
  | 1 => exact plus_00
  | 2 | 3 | 4 | 5 | 6 => rfl
  | k + 7 => exact plus_00
theorem opp_0 : oppF q 0 = 0 := congrArg El.v (show -(0 : El q) = 0 by grind)
theorem neg_bL (p : Bd (El q)) : (bL p).map (oppF q) = bL p.neg := by
  refine bL_ext (trim_map opp_0 (fun x hx h0 hz => h0 ?_) (bL_trim p)) fun k => ?_
  · have e : -(⟨x, bL_num p x hx⟩ : El q) = 0 := El.ext hz
    have : (⟨x, bL_num p x hx⟩ : El q) = 0 := by grind
    exact congrArg El.v this
  · rw [cf_map opp_0, bL_cf]
    match k with
    | 0 => exact opp_0
    | 1 => exact opp_0
    | 2 | 3 | 4 | 5 | 6 => rfl
    | k + 7 => exact opp_0
theorem straight_step_spec (H : StW P) (s : Stp (El q)) (m : Mp (El q)) {n : Nat} {Q : RV → List Sl → Prop} (h : Q (.val (stepD (act s (.str m)))) [.val (.int q), .val (stepD s), .val (mD m)]) :
    CW (cfg P (n + 4)) "with_straight" [] [.val (.int q), .val (stepD s), .val (mD m)] Q := by
  refine CW_pos H.with_straight rfl ?_
  show WB (cfg P (n + 3)) f_with_straight.body [some (.val (.int q)), some (.val (stepD s)), some (.val (mD m))] _
  unfold f_with_straight
  rw [show stepD s = PyData.tuple [.int (s0 s.st), .tuple (bsL s.st), .tuple (dI (tsL s.st)), mD s.last] from rfl]
  have c3 : cut [PyData.int (s0 s.st), .tuple (bsL s.st), .tuple (dI (tsL s.st)), mD s.last] none (some 3) = [PyData.int (s0 s.st), .tuple (bsL s.st), .tuple (dI (tsL s.st))] := rfl
  dsimp! [at3, c3]
  refine thn_spec H s.last m ?_
  dsimp! [c3]
  exact h
theorem bend_step_spec (H : StW P) {s : Stp (El q)} (hs : s.Ok) (sl : s.st.length ≤ 1000000) (p : Bd (El q)) {n : Nat} {Q : RV → List Sl → Prop} (h : Q (.val (stepD (act s (.bnd p)))) [.val (.int q), .val (stepD s), .val (bD p)]) :
    CW (cfg P (n + 6)) "with_bend" [] [.val (.int q), .val (stepD s), .val (bD p)] Q := by
  refine CW_pos H.with_bend rfl ?_
  show WB (cfg P (n + 5)) f_with_bend.body [some (.val (.int q)), some (.val (stepD s)), some (.val (bD p)), none, none, none, none, none, none, none] _
  unfold f_with_bend
  have low := split_low hs.last
  have act0 : act s (.bnd p) = push s.st (split s.last).1 (bt (split s.last).2 p).1 (bt (split s.last).2 p).2 := rfl
  rw [act0] at h
  refine WB_cut (fun e => e = [some (.val (.int q)), some (.val (stepD s)), some (.val (bD p)), some (.val (.int (s0 s.st))), some (.val (.tuple (bsL s.st))), some (.val (.tuple (dI (tsL s.st)))), some (.val (mD s.last)), none, none, none]) ?_ ?_
  · dsimp! [stepD]
  rintro _ rfl
  refine WB_cut (fun e => e = [some (.val (.int q)), some (.val (stepD s)), some (.val (bD p)), some (.val (.int (s0 s.st))), some (.val (.tuple (bsL s.st))), some (.val (.tuple (dI (tsL s.st)))), some (.val (mD s.last)), some (.val (.int (tI (split s.last).1))), some (.val (mD (split s.last).2)), none]) ?_ ?_
  · subst_eqs
    refine split_spec H s.last ?_
    subst_eqs
  rintro _ rfl
  refine WB_cut (fun e => e = [some (.val (.int q)), some (.val (stepD s)), some (.val (bD p)), some (.val (.int (s0 s.st))), some (.val (.tuple (bsL s.st))), some (.val (.tuple (dI (tsL s.st)))), some (.val (mD s.last)), some (.val (.int (tI (split s.last).1))), some (.val (mD (bt (split s.last).2 p).2)), some (.val (bD (bt (split s.last).2 p).1))]) ?_ ?_
  · subst_eqs
    refine through_spec (n := n + 1) H low p ?_
    subst_eqs
  rintro _ rfl
  generalize (bt (split s.last).2 p).1 = f1 at *
  generalize (bt (split s.last).2 p).2 = m1 at *
  generalize (split s.last).1 = r at *
  obtain ⟨st, L⟩ := s
  have hst : StOk st := hs.st
  cases st with
  | nil =>
    rw [push_some (fun _ => rfl)] at h
    dsimp! [eq_empty (bs_shaped ([] : Stk q))]
    refine ⟨fun _ => h, fun z => absurd rfl z⟩
  | cons x st =>
    obtain ⟨b, t⟩ := x
    have bne : bsL ((b, t) :: st) ≠ [] := by rw [bs_cons]; simp
    dsimp! [eq_empty (bs_shaped ((b, t) :: st))]
    refine ⟨fun z => absurd z bne, fun _ => ⟨fun hr => ?_, fun hr => ?_⟩⟩
    · obtain rfl : r = none := by
        cases r with
        | none => rfl
        | some e => exact absurd hr (num_ne e.num)
      obtain ⟨h1, h2, h3⟩ := hst
      rw [push_cons] at h
      have at4 : atI (bsL ((b, t) :: st)) (-1) = some (bD b) := by
        rw [bs_cons]
        exact at_last
      have ci : cut (bsL ((b, t) :: st)) none (some (-1)) = bsL st := by
        rw [bs_cons]
        exact cut_init
      have z1 := bs_len (st := (b, t) :: st)
      have sl2 : ((b, t) :: st).length ≤ 1000000 := sl
      have sl3 : st.length + 1 ≤ 1000000 := sl
      dsimp! [at4]
      refine one_plus_spec (n := n + 3) H (bL_num b) (bL_num f1) (Nat.le_trans (bL_len b) (by omega)) (Nat.le_trans (bL_len f1) (by omega)) ?_
      rw [addL_bL]
      dsimp! [ne_empty (shaped_ints_tuple (l := bL (b.add f1)))]
      refine ⟨fun hz => ?_, fun hz => ?_⟩
      · have hz2 : b.add f1 = Bd.zero := bL_nil.mp (List.map_eq_nil_iff.mp hz)
        rw [if_pos hz2] at h
        rw [z1]
        cases st with
        | nil =>
          refine ⟨fun _ => ?_, fun z => absurd rfl z⟩
          rw [s0_one]
          refine turned_spec (n := n + 1) H t m1 ?_
          subst_eqs
          exact h
        | cons y st =>
          refine ⟨fun z => absurd z (by simp only [List.length_cons]; omega), fun _ => ?_⟩
          have et : dI (tsL ((b, t) :: y :: st)) = dI (tsL (y :: st)) ++ [.int (tI t)] := by
            rw [ts_cons]
            simp [dI]
          have at5 : atI (dI (tsL ((b, t) :: y :: st))) (-1) = some (.int (tI t)) := by
            rw [et]
            exact at_last
          have cj : cut (dI (tsL ((b, t) :: y :: st))) none (some (-1)) = dI (tsL (y :: st)) := by
            rw [et]
            exact cut_init
          dsimp! [at5]
          refine turned_spec (n := n + 1) H t m1 ?_
          dsimp! [ci, cj]
          rw [s0_cons]
          exact h
      · have hz2 : b.add f1 ≠ Bd.zero := fun z => hz (by rw [bL_nil.mpr z]; rfl)
        rw [if_neg hz2] at h
        dsimp! [ci]
        have e1 : stepD (⟨(b.add f1, t) :: st, m1⟩ : Stp (El q)) = .tuple [.int (s0 ((b, t) :: st)), .tuple (bsL st ++ [bD (b.add f1)]), .tuple (dI (tsL ((b, t) :: st))), mD m1] := by
          show PyData.tuple [.int (s0 ((b.add f1, t) :: st)), .tuple (bsL ((b.add f1, t) :: st)), .tuple (dI (tsL ((b.add f1, t) :: st))), mD m1] = _
          rw [bs_cons]
          cases st with
          | nil => rfl
          | cons y st => rw [ts_cons, ts_cons, s0_cons, s0_cons]
        rw [e1] at h
        exact ⟨by rw [bs_len]; omega, h⟩
    · obtain ⟨e, rfl⟩ : ∃ e, r = some e := by
        cases r with
        | none => exact absurd rfl hr
        | some e => exact ⟨e, rfl⟩
      rw [push_some (fun z => by cases z)] at h
      have e1 : stepD (⟨(f1, some e) :: (b, t) :: st, m1⟩ : Stp (El q)) = .tuple [.int (s0 ((b, t) :: st)), .tuple (bsL ((b, t) :: st) ++ [bD f1]), .tuple (dI (tsL ((b, t) :: st)) ++ [.int (tI (some e))]), mD m1] := by
        show PyData.tuple [.int (s0 ((f1, some e) :: (b, t) :: st)), .tuple (bsL ((f1, some e) :: (b, t) :: st)), .tuple (dI (tsL ((f1, some e) :: (b, t) :: st))), mD m1] = _
        rw [bs_cons (x := (f1, some e)), ts_cons, s0_cons]
        simp [dI]
      rw [e1] at h
      have z1 := bs_len (st := (b, t) :: st)
      have z2 := ts_len (st := (b, t) :: st)
      have sl2 : ((b, t) :: st).length ≤ 1000000 := sl
      refine ⟨by rw [z1]; omega, by rw [dI_length, z2]; omega, h⟩
theorem eqS_ss : cmpR .eq (.str "straight") (.str "straight") = some true := eq_str_refl (by decide +kernel)
theorem eqS_bs : cmpR .eq (.str "bend") (.str "straight") = some false := by kernel_rfl
theorem eqS_bb : cmpR .eq (.str "bend") (.str "bend") = some true := eq_str_refl (by decide +kernel)
theorem eqS_sb : cmpR .eq (.str "straight") (.str "bend") = some false := by kernel_rfl
theorem push_len {st : Stk q} {r : Option (El q)} {p : Bd (El q)} {m : Mp (El q)} : (push st r p m).st.length ≤ st.length + 1 := by
  unfold push
  split
  · split <;> simp
    omega
  · simp
theorem act_len (s : Stp (El q)) (p : Pc (El q)) : (act s p).st.length ≤ s.st.length + 1 := by
  cases p with
  | str m => exact Nat.le_succ _
  | bnd p => exact push_len
theorem acts_len : ∀ (r : List (Pc (El q))) (s : Stp (El q)), (acts s r).st.length ≤ s.st.length + r.length
  | [], s => Nat.le_refl _
  | p :: r, s => by
    have := acts_len r (act s p)
    have := act_len s p
    show (acts (act s p) r).st.length ≤ _
    rw [List.length_cons]
    omega
theorem rowD_get {r : List (Pc (El q))} {i : Nat} {x : D} (h : (rowD r)[i]? = some x) : ∃ p, r[i]? = some p ∧ x = pcD p := by
  unfold rowD at h
  rw [List.getElem?_map] at h
  cases g : r[i]? with
  | none => rw [g] at h; cases h
  | some p => rw [g] at h; cases h; exact ⟨p, rfl, rfl⟩
theorem take_next {α : Type} {l : List α} {i : Nat} {x : α} (h : l[i]? = some x) : l.take (i + 1) = l.take i ++ [x] := by
  rw [List.take_add_one, h]; rfl
theorem pieces_spec (H : StW P) {s : Stp (El q)} (hs : s.Ok) {r : List (Pc (El q))} (hr : RowOk r) (sl : s.st.length + r.length ≤ 1000000) {d : D} (hd : itemsOf d = some (rowD r)) {n : Nat} {Q : RV → List Sl → Prop} (h : Q (.val (stepD (acts s r))) [.val (.int q), .val (stepD s), .val d]) :
    CW (cfg P (n + 7)) "with_pieces" [] [.val (.int q), .val (stepD s), .val d] Q := by
  refine CW_pos H.with_pieces rfl ?_
  show WB (cfg P (n + 6)) f_with_pieces.body [some (.val (.int q)), some (.val (stepD s)), some (.val d), none] _
  unfold f_with_pieces
  dsimp! [hd]
  refine FoW_inv (fun i e => ∃ x3, e = [some (.val (.int q)), some (.val (stepD (acts s (r.take i)))), some (.val d), x3]) ⟨_, rfl⟩ ?_ ?_
  · rintro i x e hx ⟨x3, rfl⟩
    obtain ⟨p, hp, rfl⟩ := rowD_get hx
    have ok := acts_ok hs (fun y hy => hr y (List.mem_of_mem_take hy)) (r := r.take i)
    have len := acts_len (r.take i) s
    rw [List.length_take] at len
    have e1 : acts s (r.take (i + 1)) = act (acts s (r.take i)) p := by
      rw [take_next hp, acts_app]
      rfl
    rw [e1]
    cases p with
    | str m =>
      rw [show pcD (.str m) = PyData.tuple [.str "straight", mD m] from rfl]
      dsimp! [at0, at1, eqS_ss]
      refine straight_step_spec (n := n + 2) H _ m ?_
      subst_eqs
      exact ⟨_, rfl⟩
    | bnd b =>
      rw [show pcD (.bnd b) = PyData.tuple [.str "bend", bD b] from rfl]
      dsimp! [at0, at1, eqS_bs]
      refine bend_step_spec H ok (by omega) b ?_
      subst_eqs
      exact ⟨_, rfl⟩
  · rintro e ⟨x3, rfl⟩
    rw [show (rowD r).length = r.length from List.length_map .., List.take_length]
    subst_eqs
    exact h
end
/-! the pieces of a step; steps one behind the other, undone (own work) -/
section
variable {P : Prg} {q : Int} [hq : FldI q]
open ST
def bpR (x : Bd (El q) × Option (El q)) : List (Pc (El q)) := turnR x.2 ++ [.bnd x.1]
theorem stR_fw : ∀ (st : Stk q), stR st = (fw st).flatMap bpR
  | [] => rfl
  | (b, t) :: st => by
    rw [fw_cons, List.flatMap_append, ← stR_fw st]
    simp [stR, bpR]
/-- the turn ahead of the i-th bend -/
def trnAt (st : Stk q) (i : Nat) : List (Pc (El q)) := match (fw st)[i]? with
  | some x => turnR x.2
  | none => []
theorem tsA_get {st : Stk q} {i : Nat} : (tsA st)[i]? = (fw st)[i]?.map fun x => tI x.2 := by
  unfold tsA
  rw [List.getElem?_map]
theorem ok_some : ∀ {st : Stk q}, StOk st → ∀ {i : Nat} {x : Bd (El q) × Option (El q)}, (fw st)[i + 1]? = some x → ∃ e, x.2 = some e
  | [], _, i, x, h => by simp [fw] at h
  | (b, t) :: st, ⟨_, h2, h3⟩, i, x, h => by
    rw [fw_cons] at h
    by_cases g : i + 1 < (fw st).length
    · rw [List.getElem?_append_left g] at h
      exact ok_some h3 h
    · rw [List.getElem?_append_right (by omega)] at h
      have e : i + 1 - (fw st).length = 0 := by
        have := (List.getElem?_eq_some_iff.mp h).1
        simp at this
        omega
      rw [e] at h
      have hx : (b, t) = x := by simpa using h
      subst hx
      cases t with
      | some e => exact ⟨e, rfl⟩
      | none =>
        have : st = [] := h2 rfl
        subst this
        simp [fw] at e
theorem rowD_app {r u : List (Pc (El q))} : rowD (r ++ u) = rowD r ++ rowD u := List.map_append
theorem stR_len : ∀ (st : Stk q), (stR st).length ≤ 2 * st.length
  | [] => Nat.le_refl _
  | (b, t) :: st => by
    have := stR_len st
    have : (turnR t).length ≤ 1 := by cases t <;> simp [turnR]
    simp [stR]
    omega
theorem row_len (s : Stp (El q)) : (row s).length ≤ 2 * s.st.length + 1 := by
  have := stR_len s.st
  simp [row]
  omega
theorem bpR_len : ∀ (l : Stk q), (l.flatMap bpR).length ≤ 2 * l.length
  | [] => Nat.le_refl _
  | (b, t) :: l => by
    have := bpR_len l
    have : (turnR t).length ≤ 1 := by cases t <;> simp [turnR]
    rw [List.flatMap_cons, List.length_append, List.length_cons]
    simp only [bpR, List.length_append, List.length_cons, List.length_nil]
    omega
theorem trnAt_len (st : Stk q) (i : Nat) : (trnAt st i).length ≤ 1 := by
  unfold trnAt
  split
  · rename_i x _
    cases x.2 <;> simp [turnR]
  · simp
theorem pieces_of_spec (H : StW P) {s : Stp (El q)} (hs : s.Ok) (sl : s.st.length ≤ 1000000) {n : Nat} {Q : RV → List Sl → Prop} (h : Q (.val (.tuple (rowD (row s)))) [.val (stepD s)]) :
    CW (cfg P (n + 2)) "pieces_of" [] [.val (stepD s)] Q := by
  refine CW_pos H.pieces_of rfl ?_
  show WB (cfg P (n + 1)) f_pieces_of.body [some (.val (stepD s)), none, none, none, none, none, none, none] _
  unfold f_pieces_of
  have bl := bs_len (st := s.st)
  have tl := ts_len (st := s.st)
  have fl : (fw s.st).length = s.st.length := by simp [fw]
  refine WB_cut (fun e => e = [some (.val (stepD s)), some (.val (.int (s0 s.st))), some (.val (.tuple (bsL s.st))), some (.val (.tuple (dI (tsL s.st)))), some (.val (mD s.last)), none, none, none]) ?_ ?_
  · dsimp! [stepD]
  rintro _ rfl
  refine WB_cut (fun e => e = [some (.val (stepD s)), some (.val (.int (s0 s.st))), some (.val (.tuple (bsL s.st))), some (.val (.tuple (dI (tsL s.st)))), some (.val (mD s.last)), some (.own (ofL (rowD (trnAt s.st 0)))), none, none]) ?_ ?_
  · have e0 : s0 s.st = -1 ∧ trnAt s.st 0 = [] ∨ ∃ e : El q, s0 s.st = e.v ∧ trnAt s.st 0 = [.str (tm e)] := by
      unfold s0 trnAt
      have g := tsA_get (st := s.st) (i := 0)
      cases f : (fw s.st)[0]? with
      | none =>
        rw [f] at g
        left
        cases t : tsA s.st with
        | nil => exact ⟨rfl, rfl⟩
        | cons a l => rw [t] at g; simp at g
      | some x =>
        rw [f] at g
        cases t : tsA s.st with
        | nil => rw [t] at g; simp at g
        | cons a l =>
          rw [t] at g
          have ga : a = tI x.2 := by simpa using g
          obtain ⟨b, o⟩ := x
          cases o with
          | none => left; exact ⟨ga, rfl⟩
          | some e => right; exact ⟨e, ga, rfl⟩
    rcases e0 with ⟨e1, e2⟩ | ⟨e, e1, e2⟩
    · rw [e1, e2]
      subst_eqs
      exact ⟨rfl, fun z => z.elim⟩
    · rw [e1, e2]
      subst_eqs
      refine ⟨fun z => absurd z (num_ne e.num), fun _ => ?_⟩
      refine turn_spec H e ?_
      subst_eqs
      rfl
  rintro _ rfl
  refine WB_cut (fun e => ∃ x6 x7, e = [some (.val (stepD s)), some (.val (.int (s0 s.st))), some (.val (.tuple (bsL s.st))), some (.val (.tuple (dI (tsL s.st)))), some (.val (mD s.last)), some (.own (ofL (rowD (stR s.st)))), x6, x7]) ?_ ?_
  · subst_eqs
    refine FoW_inv (fun i e => ∃ x6 x7, e = [some (.val (stepD s)), some (.val (.int (s0 s.st))), some (.val (.tuple (bsL s.st))), some (.val (.tuple (dI (tsL s.st)))), some (.val (mD s.last)), some (.own (ofL (rowD (((fw s.st).take i).flatMap bpR ++ trnAt s.st i)))), x6, x7]) ⟨_, _, rfl⟩ ?_ ?_
    · rintro i x e hx ⟨x6, x7, rfl⟩
      obtain ⟨y, hy, rfl⟩ := enum_at hx
      unfold bsL at hy
      rw [List.getElem?_map] at hy
      obtain ⟨z, hz, rfl⟩ := Option.map_eq_some_iff.mp hy
      have iz := (List.getElem?_eq_some_iff.mp hz).1
      have e1 : ((fw s.st).take i).flatMap bpR ++ trnAt s.st i ++ [.bnd z.1] = ((fw s.st).take (i + 1)).flatMap bpR := by
        rw [take_next hz, List.flatMap_append]
        simp [trnAt, hz, bpR]
      have ln : (rowD (((fw s.st).take i).flatMap bpR ++ trnAt s.st i)).length ≤ 2 * s.st.length + 2 := by
        have a := bpR_len ((fw s.st).take i)
        rw [List.length_take] at a
        have b := trnAt_len s.st i
        rw [show (rowD (((fw s.st).take i).flatMap bpR ++ trnAt s.st i)).length = (((fw s.st).take i).flatMap bpR ++ trnAt s.st i).length from List.length_map .., List.length_append]
        omega
      have e2 : rowD (((fw s.st).take i).flatMap bpR ++ trnAt s.st i) ++ [PyData.tuple [.str "bend", bD z.1]] = rowD (((fw s.st).take (i + 1)).flatMap bpR) := by
        rw [← e1, rowD_app (u := [.bnd z.1])]
        rfl
      have alt : (s.st.length - 1 ≤ i ∧ trnAt s.st (i + 1) = []) ∨ ∃ e : El q, i < (tsL s.st).length ∧ cf (tsL s.st) i = e.v ∧ trnAt s.st (i + 1) = [.str (tm e)] := by
        by_cases g : i + 1 < (fw s.st).length
        · have hy : (fw s.st)[i + 1]? = some ((fw s.st)[i + 1]'g) := List.getElem?_eq_getElem g
          obtain ⟨e, he⟩ := ok_some hs.st hy
          have te : (tsL s.st)[i]? = some e.v := by
            unfold tsL
            rw [List.getElem?_tail, tsA_get, hy]
            show some (tI _) = _
            rw [he]
            rfl
          refine .inr ⟨e, (List.getElem?_eq_some_iff.mp te).1, cf_some te, ?_⟩
          unfold trnAt
          rw [hy]
          show turnR _ = _
          rw [he]
          rfl
        · refine .inl ⟨by omega, ?_⟩
          unfold trnAt
          rw [List.getElem?_eq_none (by omega)]
      rcases alt with ⟨g, tr⟩ | ⟨e, g, te, tr⟩
      · rw [tr, List.append_nil, ← e2, OW_set2]
        show WB (cfg P (n + 1)) _ [some (.val (stepD s)), some (.val (.int (s0 s.st))), some (.val (.tuple (bsL s.st))), some (.val (.tuple (dI (tsL s.st)))), some (.val (mD s.last)), some (.own (ofL (rowD (((fw s.st).take i).flatMap bpR ++ trnAt s.st i)))), some (.val (.int (0 + i : Nat))), some (.val (bD z.1))] _
        dsimp! [dI_length, tl]
        exact ⟨by omega, fun hi => by omega, fun hi => ⟨_, _, rfl⟩⟩
      · have e3 : rowD (((fw s.st).take i).flatMap bpR ++ trnAt s.st i) ++ [PyData.tuple [.str "bend", bD z.1]] ++ [PyData.tuple [.str "straight", mD (tm e)]] = rowD (((fw s.st).take (i + 1)).flatMap bpR ++ trnAt s.st (i + 1)) := by
          rw [tr, rowD_app (u := [.str (tm e)]), ← e2]
          rfl
        have at6 : atI (dI (tsL s.st)) (i : Int) = some (.int e.v) := by rw [dI_at g, te]
        rw [← e3, OW_set2]
        show WB (cfg P (n + 1)) _ [some (.val (stepD s)), some (.val (.int (s0 s.st))), some (.val (.tuple (bsL s.st))), some (.val (.tuple (dI (tsL s.st)))), some (.val (mD s.last)), some (.own (ofL (rowD (((fw s.st).take i).flatMap bpR ++ trnAt s.st i)))), some (.val (.int (0 + i : Nat))), some (.val (bD z.1))] _
        dsimp! [dI_length, tl, at6]
        refine ⟨by omega, fun hi => ?_, fun hi => by omega⟩
        refine turn_spec H e ?_
        subst_eqs
        rw [List.length_append]
        simp only [List.length_cons, List.length_nil]
        exact ⟨by omega, _, _, rfl⟩
    · rintro e ⟨x6, x7, rfl⟩
      rw [enum_length, bl, ← fl, List.take_length, ← stR_fw]
      have : trnAt s.st (fw s.st).length = [] := by
        unfold trnAt
        rw [List.getElem?_eq_none (Nat.le_refl _)]
      rw [this, List.append_nil]
      subst_eqs
      exact ⟨_, _, rfl⟩
  rintro _ ⟨x6, x7, rfl⟩
  have ln : (rowD (stR s.st)).length ≤ 2 * s.st.length := by
    have := stR_len s.st
    rw [show (rowD (stR s.st)).length = (stR s.st).length from List.length_map ..]
    exact this
  subst_eqs
  refine ⟨by omega, ?_⟩
  have e2 : rowD (stR s.st) ++ [PyData.tuple [.str "straight", mD s.last]] = rowD (row s) := by
    unfold row
    rw [rowD_app]
    rfl
  rw [e2]
  exact h
theorem items_row {r : List (Pc (El q))} : itemsOf (.tuple (rowD r)) = some (rowD r) := rfl
theorem items_rowL {r : List (Pc (El q))} : itemsOf (.list (rowD r)) = some (rowD r) := rfl
theorem rowD_len {r : List (Pc (El q))} : (rowD r).length = r.length := List.length_map ..
theorem back_step_spec (H : StW P) {s : Stp (El q)} (hs : s.Ok) (sl : s.st.length ≤ 100000) {n : Nat} {Q : RV → List Sl → Prop} (h : Q (.val (stepD (mk (bk (row s))))) [.val (.int q), .val (stepD s)]) :
    CW (cfg P (n + 8)) "back" [] [.val (.int q), .val (stepD s)] Q := by
  refine CW_pos H.back rfl ?_
  show WB (cfg P (n + 7)) f_back.body [some (.val (.int q)), some (.val (stepD s)), none, none, none] _
  unfold f_back
  have rl := row_len s
  refine WB_cut (fun e => e = [some (.val (.int q)), some (.val (stepD s)), some (.own (ofL [])), none, none]) ?_ ?_
  · subst_eqs
  rintro _ rfl
  refine WB_cut (fun e => ∃ x3 x4, e = [some (.val (.int q)), some (.val (stepD s)), some (.own (ofL (rowD (bk (row s))))), x3, x4]) ?_ ?_
  · subst_eqs
    refine pieces_of_spec (n := n + 5) H hs (by omega) ?_
    subst_eqs
    refine FoW_inv (fun i e => ∃ x3 x4, e = [some (.val (.int q)), some (.val (stepD s)), some (.own (ofL (rowD (((row s).reverse.take i).map Pc.inv)))), x3, x4]) ⟨_, _, rfl⟩ ?_ ?_
    · rintro i x e hx ⟨x3, x4, rfl⟩
      rw [show (rowD (row s)).reverse = rowD (row s).reverse from by simp [rowD]] at hx
      obtain ⟨p, hp, rfl⟩ := rowD_get hx
      have ok : p.ok := row_ok hs p (List.mem_reverse.mp (List.mem_of_getElem? hp))
      have e1 : rowD (((row s).reverse.take i).map Pc.inv) ++ [pcD p.inv] = rowD (((row s).reverse.take (i + 1)).map Pc.inv) := by
        rw [take_next hp, List.map_append, rowD_app]
        rfl
      have ln : (rowD (((row s).reverse.take i).map Pc.inv)).length ≤ 200001 := by
        rw [rowD_len, List.length_map, List.length_take, List.length_reverse]
        omega
      cases p with
      | str m =>
        rw [show pcD (.str m) = PyData.tuple [.str "straight", mD m] from rfl, OW_set2]
        show WB (cfg P (n + 7)) _ [some (.val (.int q)), some (.val (stepD s)), some (.own (ofL (rowD (((row s).reverse.take i).map Pc.inv)))), some (.val (.str "straight")), some (.val (mD m))] _
        dsimp! [eqS_ss]
        refine back_spec (n := n + 3) H m ok ?_
        subst_eqs
        rw [← e1]
        exact ⟨by omega, _, _, rfl⟩
      | bnd b =>
        rw [show pcD (.bnd b) = PyData.tuple [.str "bend", bD b] from rfl, OW_set2]
        show WB (cfg P (n + 7)) _ [some (.val (.int q)), some (.val (stepD s)), some (.own (ofL (rowD (((row s).reverse.take i).map Pc.inv)))), some (.val (.str "bend")), some (.val (bD b))] _
        dsimp! [eqS_bs]
        refine opposite_list_spec (n := n + 5) H (bL_num b) (Nat.le_trans (bL_len b) (by omega)) ?_
        rw [neg_bL]
        subst_eqs
        rw [← e1]
        exact ⟨by omega, _, _, rfl⟩
    · rintro e ⟨x3, x4, rfl⟩
      rw [show (rowD (row s)).reverse.length = (row s).reverse.length from by rw [List.length_reverse, rowD_len, List.length_reverse], List.take_length]
      subst_eqs
      exact ⟨_, _, rfl⟩
  rintro _ ⟨x3, x4, rfl⟩
  dsimp! [show P.glob "NOTHING" = some cNOTHING from H.noth]
  rw [← step_nil (q := q)]
  refine pieces_spec H nil_ok (bk_ok (row_ok hs)) ?_ items_rowL ?_
  · rw [show (ST.nil : Stp (El q)).st.length = 0 from rfl]
    simp [bk]
    omega
  · subst_eqs
    exact h
end
/-! what a step is: the checks answer True at steps (own work) -/
section
variable {P : Prg} {q : Int} [hq : FldI q]
open ST
theorem integer_spec (H : StW P) (a : Int) {n : Nat} {Q : RV → List Sl → Prop} (h : Q (.val (.bool true)) [.val (.int a)]) : CW (cfg P (n + 1)) "is_integer" [] [.val (.int a)] Q := by
  refine CW_pos H.is_integer rfl ?_
  show WB (cfg P n) f_is_integer.body [some (.val (.int a))] _
  unfold f_is_integer
  subst_eqs
  exact h
theorem number_spec (H : StW P) {a : Int} (ha : Num q a) {n : Nat} {Q : RV → List Sl → Prop} (h : Q (.val (.bool true)) [.val (.int q), .val (.int a)]) : CW (cfg P (n + 2)) "is_number" [] [.val (.int q), .val (.int a)] Q := by
  refine CW_pos H.is_number rfl ?_
  show WB (cfg P (n + 1)) f_is_number.body [some (.val (.int q)), some (.val (.int a))] _
  unfold f_is_number
  obtain ⟨a1, a2⟩ := ha
  subst_eqs
  refine integer_spec H a ?_
  subst_eqs
  refine ⟨fun _ => ?_, fun z => absurd a1 z⟩
  rw [decide_eq_true a2]
  exact h
def trueD (_ : D) : D := .bool true
theorem all_true {l : List D} : bltR .all [.list (l.map trueD)] = some (.val (.bool true)) := by
  have e : ∀ l : List D, isBls (l.map trueD) = some (l.map fun _ => true) := fun l => by
    induction l with
    | nil => rfl
    | cons x l ih =>
      show (isBls (l.map trueD)).map (true :: ·) = _
      rw [ih]
      rfl
  show (isBls (l.map trueD)).map (fun l => RV.val (.bool (l.all id))) = _
  rw [e]
  simp
theorem numbers_spec (H : StW P) {l : List Int} (hl : NumL q l) (ll : l.length ≤ 1000000) {n : Nat} {Q : RV → List Sl → Prop} (h : Q (.val (.bool true)) [.val (.int q), .val (.tuple (dI l))]) : CW (cfg P (n + 3)) "are_numbers" [] [.val (.int q), .val (.tuple (dI l))] Q := by
  refine CW_pos H.are_numbers rfl ?_
  show WB (cfg P (n + 2)) f_are_numbers.body [some (.val (.int q)), some (.val (.tuple (dI l))), none] _
  unfold f_are_numbers
  subst_eqs
  refine ⟨rfl, ?_⟩
  refine LcW_map trueD rfl (fun x hx => ?_) fun e2 he => ?_
  · obtain ⟨x, rfl, hx2⟩ := dI_mem hx
    subst_eqs
    refine number_spec H (hl x hx2) ?_
    subst_eqs
    first | rfl | exact ⟨rfl, rfl⟩
  · rw [he]
    dsimp! [all_true]
    rw [List.length_map, dI_length]
    exact ⟨by omega, h⟩
theorem trim_cons {x : Int} {l : List Int} : trimL (x :: l) = if trimL l = [] then (if x = 0 then [] else [x]) else x :: trimL l := by
  refine snoc_ind (φ := fun l => trimL (x :: l) = if trimL l = [] then (if x = 0 then [] else [x]) else x :: trimL l) ?_ (fun l y ih => ?_) l
  · rw [trim_nil, if_pos rfl]
    by_cases h : x = 0
    · subst h; rfl
    · rw [if_neg h]
      exact trim_snoc (l := []) h
  · by_cases h : y = 0
    · subst h
      rw [← List.cons_append, trim_snoc0, trim_snoc0, ih]
    · rw [← List.cons_append, trim_snoc h, trim_snoc h, if_neg (by simp)]
      rfl
/-- the shape of a bend -/
theorem bL_shape {p : Bd (El q)} (h : p ≠ Bd.zero) : ∃ m : List Int, m ≠ [] ∧ bL p = 0 :: 0 :: m := by
  have e : bL p = trimL (0 :: 0 :: vL [p.c2, p.c3, p.c4, p.c5, p.c6]) := rfl
  have ne : bL p ≠ [] := fun z => h (bL_nil.mp z)
  rw [e, trim_cons, trim_cons] at ne ⊢
  generalize trimL (vL [p.c2, p.c3, p.c4, p.c5, p.c6]) = m at *
  by_cases hm : m = []
  · rw [if_pos hm, if_pos rfl, if_pos rfl] at ne
    exact absurd rfl ne
  · rw [if_neg hm, if_neg (by simp)]
    exact ⟨m, hm, rfl⟩
theorem dI_last {l : List Int} (h : l ≠ []) : atI (dI l) (-1) = some (.int (cf l (l.length - 1))) := by
  rcases List.eq_nil_or_concat l with rfl | ⟨ini, x, rfl⟩
  · exact absurd rfl h
  · rw [List.concat_eq_append]
    have e : dI (ini ++ [x]) = dI ini ++ [.int x] := by simp [dI]
    rw [e, at_last, cf_lt (by simp)]
    simp
theorem one_letter_spec (H : StW P) {l : List Int} (hl : NumL q l) (ht : Trim l) (h0 : l ≠ []) (ll : l.length ≤ 1000) {n : Nat} {Q : RV → List Sl → Prop} (h : Q (.val (.bool true)) [.val (.int q), .val (.tuple (dI l))]) : CW (cfg P (n + 4)) "is_one_letter" [] [.val (.int q), .val (.tuple (dI l))] Q := by
  refine CW_pos H.is_one_letter rfl ?_
  show WB (cfg P (n + 3)) f_is_one_letter.body [some (.val (.int q)), some (.val (.tuple (dI l)))] _
  unfold f_is_one_letter
  have top := ht.top h0
  have dl := dI_last h0
  have ne : dI l ≠ [] := fun z => h0 (List.map_eq_nil_iff.mp z)
  subst_eqs
  refine numbers_spec H hl (by omega) ?_
  dsimp! [eq_empty (shaped_ints_tuple (l := l)), dl]
  refine ⟨fun z => absurd z ne, fun _ => ?_⟩
  rw [decide_eq_false top]
  exact h
theorem is_bend_spec (H : StW P) {p : Bd (El q)} (hp : p ≠ Bd.zero) {n : Nat} {Q : RV → List Sl → Prop} (h : Q (.val (.bool true)) [.val (.int q), .val (bD p)]) : CW (cfg P (n + 5)) "is_bend" [] [.val (.int q), .val (bD p)] Q := by
  obtain ⟨m, hm, e⟩ := bL_shape hp
  have ll := bL_len p
  have nn := bL_num p
  have tt := bL_trim p
  have e3 : bD p = PyData.tuple (dI (0 :: 0 :: m)) := by
    rw [← e]
    rfl
  rw [e3] at h ⊢
  rw [e] at ll nn tt
  refine CW_pos H.is_bend rfl ?_
  show WB (cfg P (n + 4)) f_is_bend.body [some (.val (.int q)), some (.val (.tuple (dI (0 :: 0 :: m))))] _
  unfold f_is_bend
  have m1 : 1 ≤ m.length := List.length_pos_iff.mpr hm
  simp only [List.length_cons] at ll
  have c2 : cut (dI (0 :: 0 :: m)) none (some 2) = dI [0, 0] := by
    have := cut_hi (xs := dI (0 :: 0 :: m)) (hi := 2)
    exact this
  have e00 : cmpR .eq (.tuple (dI [0, 0])) (.tuple [.int 0, .int 0]) = some true := by
    have : cmpR .eq (.tuple (dI [0, 0])) (.tuple (dI [0, 0])) = some true := by
      simp only [cmpR, eqD, shaped_ints_tuple, Bool.and_self, if_true, PyData.eqv, eqv_ints, decide_true]
    exact this
  have dl : ((dI (0 :: 0 :: m)).length : Int) = m.length + 2 := by
    simp [dI]
    omega
  subst_eqs
  refine one_letter_spec H nn tt (by simp) (by simp; omega) ?_
  dsimp! [c2, e00, dl]
  refine ⟨fun _ => ⟨fun _ => h, fun z => by omega⟩, fun z => by omega⟩
theorem are_bends_spec (H : StW P) {st : Stk q} (hs : StOk st) (sl : st.length ≤ 1000000) {n : Nat} {Q : RV → List Sl → Prop} (h : Q (.val (.bool true)) [.val (.int q), .val (.tuple (bsL st))]) : CW (cfg P (n + 6)) "are_bends" [] [.val (.int q), .val (.tuple (bsL st))] Q := by
  refine CW_pos H.are_bends rfl ?_
  show WB (cfg P (n + 5)) f_are_bends.body [some (.val (.int q)), some (.val (.tuple (bsL st))), none] _
  unfold f_are_bends
  have hb : ∀ {st : Stk q}, StOk st → ∀ x ∈ st, x.1 ≠ Bd.zero := fun {st} => by
    induction st with
    | nil => exact fun _ x hx => by cases hx
    | cons y st ih =>
      obtain ⟨b, t⟩ := y
      rintro ⟨h1, _, h3⟩ x hx
      rcases List.mem_cons.mp hx with rfl | hx
      · exact h1
      · exact ih h3 x hx
  subst_eqs
  refine ⟨rfl, ?_⟩
  refine LcW_map trueD rfl (fun x hx => ?_) fun e2 he => ?_
  · obtain ⟨y, hy, rfl⟩ := List.mem_map.mp hx
    subst_eqs
    refine is_bend_spec H (hb hs y (List.mem_reverse.mp hy)) ?_
    subst_eqs
    first | rfl | exact ⟨rfl, rfl⟩
  · rw [he]
    dsimp! [all_true]
    rw [List.length_map, bs_len]
    exact ⟨by omega, h⟩
theorem turns_spec (H : StW P) {l : List Int} (hl : NumL q l) (ll : l.length ≤ 1000000) {m : Int} (hm : (l.length : Int) = m) {n : Nat} {Q : RV → List Sl → Prop} (h : Q (.val (.bool true)) [.val (.int q), .val (.tuple (dI l)), .val (.int m)]) : CW (cfg P (n + 2)) "are_turns" [] [.val (.int q), .val (.tuple (dI l)), .val (.int m)] Q := by
  subst hm
  refine CW_pos H.are_turns rfl ?_
  show WB (cfg P (n + 1)) f_are_turns.body [some (.val (.int q)), some (.val (.tuple (dI l))), some (.val (.int l.length)), none] _
  unfold f_are_turns
  dsimp! [dI_length]
  refine ⟨rfl, ?_⟩
  refine LcW_map trueD rfl (fun x hx => ?_) fun e2 he => ?_
  · obtain ⟨x, rfl, hx2⟩ := dI_mem hx
    obtain ⟨x1, x2⟩ := hl x hx2
    subst_eqs
    refine integer_spec H x ?_
    subst_eqs
    refine ⟨fun _ => ?_, fun z => absurd x1 z⟩
    rw [decide_eq_true x2]
    first | rfl | exact ⟨rfl, rfl⟩
  · rw [he]
    dsimp! [all_true]
    rw [List.length_map, dI_length]
    exact ⟨by omega, h⟩
theorem start_spec (H : StW P) {a : Int} (h0 : -1 ≤ a) (h1 : a < q) {n : Nat} {Q : RV → List Sl → Prop} (h : Q (.val (.bool true)) [.val (.int q), .val (.int a)]) : CW (cfg P (n + 2)) "is_start" [] [.val (.int q), .val (.int a)] Q := by
  refine CW_pos H.is_start rfl ?_
  show WB (cfg P (n + 1)) f_is_start.body [some (.val (.int q)), some (.val (.int a))] _
  unfold f_is_start
  subst_eqs
  refine integer_spec H a ?_
  subst_eqs
  refine ⟨fun _ => ?_, fun z => absurd h0 z⟩
  rw [decide_eq_true h1]
  exact h
theorem is_straight_spec (H : StW P) {m : Mp (El q)} (hm : m.det ≠ 0) {n : Nat} {Q : RV → List Sl → Prop} (h : Q (.val (.bool true)) [.val (.int q), .val (mD m)]) : CW (cfg P (n + 4)) "is_straight" [] [.val (.int q), .val (mD m)] Q := by
  refine CW_pos H.is_straight rfl ?_
  show WB (cfg P (n + 3)) f_is_straight.body [some (.val (.int q)), some (.val (mD m))] _
  unfold f_is_straight
  have e : mD m = .tuple (dI [m.a.v, m.b.v, m.c.v, m.d.v, m.e.v, m.f.v]) := rfl
  have nl : NumL q [m.a.v, m.b.v, m.c.v, m.d.v, m.e.v, m.f.v] := fun x hx => by
    simp only [List.mem_cons, List.not_mem_nil, or_false] at hx
    rcases hx with rfl | rfl | rfl | rfl | rfl | rfl <;> exact El.num _
  rw [e]
  subst_eqs
  refine numbers_spec H nl (by simp) ?_
  subst_eqs
  rw [← e]
  refine ⟨fun _ => ?_, fun z => absurd rfl z⟩
  refine determinant_spec H m ?_
  subst_eqs
  rw [decide_eq_false (El.ne_v hm)]
  exact h
theorem s0_num (st : Stk q) : -1 ≤ s0 st ∧ s0 st < q := by
  have := hq.out.lo
  unfold s0
  cases h : tsA st with
  | nil => show -1 ≤ (-1 : Int) ∧ (-1 : Int) < q; omega
  | cons a l =>
    have ha : a ∈ tsA st := by rw [h]; exact List.mem_cons_self
    obtain ⟨x, _, rfl⟩ := List.mem_map.mp ha
    show -1 ≤ tI x.2 ∧ tI x.2 < q
    cases x.2 with
    | none => show -1 ≤ (-1 : Int) ∧ (-1 : Int) < q; omega
    | some e =>
      have := e.num
      show -1 ≤ e.v ∧ e.v < q
      unfold Num at this
      omega
theorem ts_num {st : Stk q} (h : StOk st) : NumL q (tsL st) := fun x hx => by
  obtain ⟨i, hi, rfl⟩ := List.mem_iff_getElem.mp hx
  have g : (tsL st)[i]? = some (tsL st)[i] := List.getElem?_eq_getElem hi
  unfold tsL at g
  rw [List.getElem?_tail, tsA_get] at g
  obtain ⟨y, hy, e⟩ := Option.map_eq_some_iff.mp g
  obtain ⟨z, hz⟩ := ok_some h hy
  have : (tsL st)[i] = z.v := by
    unfold tsL
    rw [← e, hz]
    rfl
  rw [this]
  exact z.num
theorem bs_nil {st : Stk q} : bsL st = [] ↔ st = [] := ⟨fun h => List.eq_nil_of_length_eq_zero (by rw [← bs_len, h]; rfl), fun h => by rw [h]; rfl⟩
theorem step_value_spec (H : StW P) {s : Stp (El q)} (hs : s.Ok) (sl : s.st.length ≤ 1000000) {n : Nat} {Q : RV → List Sl → Prop} (h : Q (.val (.bool true)) [.val (.int q), .val (stepD s)]) : CW (cfg P (n + 7)) "is_step_value" [] [.val (.int q), .val (stepD s)] Q := by
  refine CW_pos H.is_step_value rfl ?_
  show WB (cfg P (n + 6)) f_is_step_value.body [some (.val (.int q)), some (.val (stepD s))] _
  unfold f_is_step_value
  obtain ⟨a0, a1⟩ := s0_num s.st
  have tl := ts_len (st := s.st)
  have e0 : bsL s.st = [] → s0 s.st = -1 := fun z => by
    rw [bs_nil.mp z]
    rfl
  have em : ((tsL s.st).length : Int) = if (0 : Int) < (bsL s.st).length - 1 then ((bsL s.st).length : Int) - 1 else 0 := by
    rw [tl, bs_len]
    split <;> omega
  rw [show stepD s = PyData.tuple [.int (s0 s.st), .tuple (bsL s.st), .tuple (dI (tsL s.st)), mD s.last] from rfl] at h ⊢
  dsimp! [at0, at1, at2, at3]
  refine ⟨fun _ => ?_, fun z => absurd rfl z⟩
  refine start_spec (n := n + 4) H a0 a1 ?_
  dsimp! [at0, at1, at2, at3]
  refine are_bends_spec H hs.st sl ?_
  dsimp! [at0, at1, at2, at3]
  refine is_straight_spec (n := n + 2) H hs.last ?_
  dsimp! [at0, at1, at2, at3, eq_empty (bs_shaped s.st)]
  have fin : CW (cfg P (n + 6)) "are_turns" [] [.val (.int q), .val (.tuple (dI (tsL s.st))), .val (.int (if (0 : Int) < (bsL s.st).length - 1 then ((bsL s.st).length : Int) - 1 else 0))] (fun r o => r = .val (.bool true) ∧ o = [.val (.int q), .val (.tuple (dI (tsL s.st))), .val (.int (if (0 : Int) < (bsL s.st).length - 1 then ((bsL s.st).length : Int) - 1 else 0))]) :=
    turns_spec (n := n + 4) H (ts_num hs.st) (by rw [tl]; omega) em ⟨rfl, rfl⟩
  refine ⟨fun z => ?_, fun z => ?_⟩
  · rw [e0 z] at h ⊢
    subst_eqs
    refine ⟨fin.mono ?_, fun z => z.elim⟩
    rintro _ _ ⟨rfl, rfl⟩
    subst_eqs
    exact h
  · refine fin.mono ?_
    rintro _ _ ⟨rfl, rfl⟩
    subst_eqs
    exact h
end
def f_check_step : Fn := ⟨["q", "thing"], 2, (.cons (.ifs (.not (.call "is_step_value" (.cons (.var 0) (.cons (.var 1) .nil)) [])) (.cons .nev .nil) .nil) .nil)⟩
def f_then : Fn := ⟨["q", "one", "other"], 3, (.cons (.ret (.call "with_pieces" (.cons (.var 0) (.cons (.var 1) (.cons (.call "pieces_of" (.cons (.var 2) .nil) []) .nil))) [])) .nil)⟩
section
variable {P : Prg} {q : Int} [hq : FldI q]
open ST
theorem check_spec (H : StW P) (H2 : P.Has "check_step" f_check_step) {s : Stp (El q)} (hs : s.Ok) (sl : s.st.length ≤ 1000000) {n : Nat} {Q : RV → List Sl → Prop} (h : Q (.val .none) [.val (.int q), .val (stepD s)]) : CW (cfg P (n + 8)) "check_step" [] [.val (.int q), .val (stepD s)] Q := by
  refine CW_pos H2 rfl ?_
  show WB (cfg P (n + 7)) f_check_step.body [some (.val (.int q)), some (.val (stepD s))] _
  unfold f_check_step
  subst_eqs
  refine step_value_spec H hs sl ?_
  subst_eqs
  exact h
theorem then_spec (H : StW P) (H2 : P.Has "then" f_then) {s t : Stp (El q)} (hs : s.Ok) (ht : t.Ok) (sl : s.st.length ≤ 100000) (tl : t.st.length ≤ 100000) {n : Nat} {Q : RV → List Sl → Prop} (h : Q (.val (stepD (acts s (row t)))) [.val (.int q), .val (stepD s), .val (stepD t)]) :
    CW (cfg P (n + 8)) "then" [] [.val (.int q), .val (stepD s), .val (stepD t)] Q := by
  refine CW_pos H2 rfl ?_
  show WB (cfg P (n + 7)) f_then.body [some (.val (.int q)), some (.val (stepD s)), some (.val (stepD t))] _
  unfold f_then
  have rl := row_len t
  subst_eqs
  refine pieces_of_spec (n := n + 5) H ht (by omega) ?_
  subst_eqs
  refine pieces_spec H hs (row_ok ht) (by omega) items_row ?_
  subst_eqs
  exact h
end
/-! the law's numbers are those of the field (own work) -/
def f__law_powers : Fn := ⟨["_law_q"], 1, (.cons (.ret (.mth .get (.dct (.cons (.con (.int 4)) (.tup (.cons (.con (.int 1)) (.cons (.con (.int 2)) (.cons (.con (.int 3)) .nil)))) (.cons (.con (.int 8)) (.tup (.cons (.con (.int 1)) (.cons (.con (.int 2)) (.cons (.con (.int 4)) (.cons (.con (.int 3)) (.cons (.con (.int 6)) (.cons (.con (.int 7)) (.cons (.con (.int 5)) .nil)))))))) (.cons (.con (.int 9)) (.tup (.cons (.con (.int 1)) (.cons (.con (.int 3)) (.cons (.con (.int 4)) (.cons (.con (.int 7)) (.cons (.con (.int 2)) (.cons (.con (.int 6)) (.cons (.con (.int 8)) (.cons (.con (.int 5)) .nil))))))))) (.cons (.con (.int 16)) (.tup (.cons (.con (.int 1)) (.cons (.con (.int 2)) (.cons (.con (.int 4)) (.cons (.con (.int 8)) (.cons (.con (.int 3)) (.cons (.con (.int 6)) (.cons (.con (.int 12)) (.cons (.con (.int 11)) (.cons (.con (.int 5)) (.cons (.con (.int 10)) (.cons (.con (.int 7)) (.cons (.con (.int 14)) (.cons (.con (.int 15)) (.cons (.con (.int 13)) (.cons (.con (.int 9)) .nil)))))))))))))))) .nil))))) (.cons (.var 0) (.cons (.tup .nil) .nil)))) .nil)⟩
def f__law_plus : Fn := ⟨["_law_q", "_law_a", "_law_b"], 3, (.cons (.ifs (.cmp .isin (.var 0) (.tup (.cons (.con (.int 4)) (.cons (.con (.int 8)) (.cons (.con (.int 16)) .nil))))) (.cons (.ret (.bin .bxor (.var 1) (.var 2))) .nil) .nil) (.cons (.ifs (.cmp .eq (.var 0) (.con (.int 9))) (.cons (.ret (.bin .add (.bin .mul (.con (.int 3)) (.bin .mod (.blt .int (.cons (.bin .add (.bin .fdiv (.var 1) (.con (.int 3))) (.bin .fdiv (.var 2) (.con (.int 3)))) .nil)) (.con (.int 3)))) (.bin .mod (.blt .int (.cons (.bin .add (.var 1) (.var 2)) .nil)) (.con (.int 3))))) .nil) .nil) (.cons (.ret (.bin .mod (.blt .int (.cons (.bin .add (.var 1) (.var 2)) .nil)) (.var 0))) .nil)))⟩
def f__law_by : Fn := ⟨["_law_q", "_law_a", "_law_b"], 4, (.cons (.asg (.nm 3) (.call "_law_powers" (.cons (.var 0) .nil) [])) (.cons (.ifs (.cmp .eq (.var 3) (.tup .nil)) (.cons (.ret (.bin .mod (.blt .int (.cons (.bin .mul (.var 1) (.var 2)) .nil)) (.var 0))) .nil) .nil) (.cons (.ifs (.or (.cmp .eq (.var 1) (.con (.int 0))) (.cmp .eq (.var 2) (.con (.int 0)))) (.cons (.ret (.con (.int 0))) .nil) .nil) (.cons (.ret (.idx (.var 3) (.bin .mod (.blt .int (.cons (.bin .add (.mth .index (.var 3) (.cons (.var 1) .nil)) (.mth .index (.var 3) (.cons (.var 2) .nil))) .nil)) (.bin .sub (.var 0) (.con (.int 1)))))) .nil))))⟩
def f__law_less : Fn := ⟨["_law_q", "_law_a"], 2, (.cons (.ifs (.cmp .isin (.var 0) (.tup (.cons (.con (.int 4)) (.cons (.con (.int 8)) (.cons (.con (.int 16)) .nil))))) (.cons (.ret (.var 1)) .nil) .nil) (.cons (.ifs (.cmp .eq (.var 0) (.con (.int 9))) (.cons (.ret (.bin .add (.bin .mul (.con (.int 3)) (.bin .mod (.blt .int (.cons (.bin .sub (.con (.int 0)) (.bin .fdiv (.var 1) (.con (.int 3)))) .nil)) (.con (.int 3)))) (.bin .mod (.blt .int (.cons (.bin .sub (.con (.int 0)) (.var 1)) .nil)) (.con (.int 3))))) .nil) .nil) (.cons (.ret (.bin .mod (.blt .int (.cons (.bin .sub (.con (.int 0)) (.var 1)) .nil)) (.var 0))) .nil)))⟩
def f__law_under : Fn := ⟨["_law_q", "_law_a"], 4, (.cons (.asg (.nm 2) (.call "_law_powers" (.cons (.var 0) .nil) [])) (.cons (.ifs (.cmp .eq (.var 2) (.tup .nil)) (.cons (.ret (.idx (.lc (.nm 3) (.blt .range (.cons (.con (.int 1)) (.cons (.var 0) .nil))) (.cmp .eq (.bin .mod (.blt .int (.cons (.bin .mul (.var 1) (.var 3)) .nil)) (.var 0)) (.con (.int 1))) (.var 3) [3]) (.con (.int 0)))) .nil) .nil) (.cons (.ret (.idx (.var 2) (.bin .mod (.blt .int (.cons (.bin .sub (.con (.int 0)) (.mth .index (.var 2) (.cons (.var 1) .nil))) .nil)) (.bin .sub (.var 0) (.con (.int 1)))))) .nil)))⟩
def f__law_cross : Fn := ⟨["_law_q", "_law_a", "_law_b", "_law_d", "_law_e"], 5, (.cons (.ret (.call "_law_plus" (.cons (.var 0) (.cons (.call "_law_by" (.cons (.var 0) (.cons (.var 1) (.cons (.var 4) .nil))) []) (.cons (.call "_law_less" (.cons (.var 0) (.cons (.call "_law_by" (.cons (.var 0) (.cons (.var 2) (.cons (.var 3) .nil))) []) .nil)) []) .nil))) [])) .nil)⟩
structure LwN (P : Prg) : Prop where
  powers : P.Has "_law_powers" f__law_powers
  plus : P.Has "_law_plus" f__law_plus
  by_ : P.Has "_law_by" f__law_by
  less : P.Has "_law_less" f__law_less
  under : P.Has "_law_under" f__law_under
  cross : P.Has "_law_cross" f__law_cross
theorem WB_run {C : Cfg} {b : CB} {env e : Ev} {f : Fl} {Q : Fl → Ev → Prop} (h : evB C b env = some (f, e)) (q : Q f e) : WB C b env Q := ⟨(f, e), h, q⟩
section
variable {P : Prg} {q : Int} [hq : FldI q]
theorem lpowers_spec (H : LwN P) {n : Nat} {Q : RV → List Sl → Prop} (h : Q (.val (.tuple (dI (powsF q)))) [.val (.int q)]) : CW (cfg P (n + 1)) "_law_powers" [] [.val (.int q)] Q := by
  refine CW_pos H.powers rfl ?_
  have hf := hq.out
  have fin : endQ [.val (.int q)] Q (.ret (.val (.tuple (dI (powsF q))))) [some (.val (.int q))] := ⟨_, rfl, h⟩
  rcases hf.cases with rfl | rfl | rfl | rfl | rfl | rfl | rfl | rfl | rfl | rfl <;> exact WB_run (by kernel_rfl) fin
theorem isin_three {q : Int} : cmpR .isin (.int q) (.tuple [.int 4, .int 8, .int 16]) = some (decide (q = 4 ∨ q = 8 ∨ q = 16)) := by
  have e : cmpR .isin (.int q) (.tuple [.int 4, .int 8, .int 16]) = some ([PyData.int 4, .int 8, .int 16].any fun d => PyData.eqv d (.int q)) := by
    simp only [cmpR, inD, shaped_int, List.all_cons, List.all_nil, Bool.and_self, if_true]
  rw [e]
  simp only [List.any_cons, List.any_nil, eqv_int]
  by_cases h4 : (4 : Int) = q
  · subst h4; rfl
  by_cases h8 : (8 : Int) = q
  · subst h8; rfl
  by_cases h16 : (16 : Int) = q
  · subst h16; rfl
  rw [decide_eq_false h4, decide_eq_false h8, decide_eq_false h16, decide_eq_false (by omega)]
  rfl
theorem lplus_spec (H : LwN P) {a b : Int} {n : Nat} {Q : RV → List Sl → Prop} (h : Q (.val (.int (plusF q a b))) [.val (.int q), .val (.int a), .val (.int b)]) : CW (cfg P (n + 1)) "_law_plus" [] [.val (.int q), .val (.int a), .val (.int b)] Q := by
  refine CW_pos H.plus rfl ?_
  show WB (cfg P n) f__law_plus.body [some (.val (.int q)), some (.val (.int a)), some (.val (.int b))] _
  unfold f__law_plus
  have := hq.out.lo
  dsimp! [isin_three]
  refine ⟨fun hp => ?_, fun hp => ⟨fun h9 => ?_, fun h9 => ⟨by omega, ?_⟩⟩⟩
  · have e : plusF q a b = Builtin.bitXor a b := by rw [plusF, if_neg (by omega), if_pos hp]
    rw [e] at h; exact h
  · have e : plusF q a b = 3 * ((a / 3 + b / 3) % 3) + (a + b) % 3 := by rw [plusF, if_pos h9, Int.mul_comm]
    rw [e] at h; exact h
  · have e : plusF q a b = (a + b) % q := by rw [plusF, if_neg h9, if_neg hp]
    rw [e] at h; exact h
theorem lless_spec (H : LwN P) {a : Int} {n : Nat} {Q : RV → List Sl → Prop} (h : Q (.val (.int (oppF q a))) [.val (.int q), .val (.int a)]) : CW (cfg P (n + 1)) "_law_less" [] [.val (.int q), .val (.int a)] Q := by
  refine CW_pos H.less rfl ?_
  show WB (cfg P n) f__law_less.body [some (.val (.int q)), some (.val (.int a))] _
  unfold f__law_less
  have := hq.out.lo
  dsimp! [isin_three]
  refine ⟨fun hp => ?_, fun hp => ⟨fun h9 => ?_, fun h9 => ⟨by omega, ?_⟩⟩⟩
  · have e : oppF q a = a := by rw [oppF, if_neg (by omega), if_pos hp]
    rw [e] at h; exact h
  · have e : oppF q a = 3 * ((0 - a / 3) % 3) + (0 - a) % 3 := by rw [oppF, if_pos h9, Int.mul_comm]
    rw [e] at h; exact h
  · have e : oppF q a = (0 - a) % q := by rw [oppF, if_neg h9, if_neg hp]
    rw [e] at h; exact h
theorem pows_nil {q : Int} (hf : Fld q) : powsF q = [] ↔ ¬ (q = 4 ∨ q = 8 ∨ q = 9 ∨ q = 16) := by
  rcases hf.cases with rfl | rfl | rfl | rfl | rfl | rfl | rfl | rfl | rfl | rfl <;> decide
theorem lby_spec (H : LwN P) {a b : Int} (ha : Num q a) (hb : Num q b) {n : Nat} {Q : RV → List Sl → Prop} (h : Q (.val (.int (timesF q a b))) [.val (.int q), .val (.int a), .val (.int b)]) : CW (cfg P (n + 2)) "_law_by" [] [.val (.int q), .val (.int a), .val (.int b)] Q := by
  refine CW_pos H.by_ rfl ?_
  show WB (cfg P (n + 1)) f__law_by.body [some (.val (.int q)), some (.val (.int a)), some (.val (.int b)), none] _
  unfold f__law_by
  have q2 := hq.out.lo
  have q3 := hq.out.hi
  have a1 := ha.1
  have a2 := ha.2
  have pn := pows_nil hq.out
  have dn : dI (powsF q) = [] ↔ powsF q = [] := List.map_eq_nil_iff
  subst_eqs
  refine lpowers_spec H ?_
  dsimp! [eq_empty (shaped_ints_tuple (l := powsF q))]
  refine ⟨fun hp => ?_, fun hp => ⟨fun h0 => ?_, fun h0 => ⟨fun h1 => ?_, fun h1 => ?_⟩⟩⟩
  · have hp2 := pn.mp (dn.mp hp)
    have : timesF q a b = a * b % q := by rw [timesF, if_neg hp2]
    rw [this] at h
    exact ⟨by omega, by omega, h⟩
  · have hp2 : q = 4 ∨ q = 8 ∨ q = 9 ∨ q = 16 := Decidable.byContradiction fun z => hp (dn.mpr (pn.mpr z))
    have : timesF q a b = 0 := by rw [timesF, if_pos hp2, if_pos (.inl h0)]
    rw [this] at h
    exact h
  · have hp2 : q = 4 ∨ q = 8 ∨ q = 9 ∨ q = 16 := Decidable.byContradiction fun z => hp (dn.mpr (pn.mpr z))
    have : timesF q a b = 0 := by rw [timesF, if_pos hp2, if_pos (.inr h1)]
    rw [this] at h
    exact h
  · have hp2 : q = 4 ∨ q = 8 ∨ q = 9 ∨ q = 16 := Decidable.byContradiction fun z => hp (dn.mpr (pn.mpr z))
    have this : timesF q a b = (powsF q).getD (((powsF q).idxOf a + (powsF q).idxOf b) % (q.toNat - 1)) 0 := by rw [timesF, if_pos hp2, if_neg (by omega)]
    rw [this] at h
    have pl := pows_len hp2
    have qn : q - 1 = ((q.toNat - 1 : Nat) : Int) := by omega
    have e1 : (((powsF q).idxOf a : Int) + (powsF q).idxOf b) % (q - 1) = ((((powsF q).idxOf a + (powsF q).idxOf b) % (q.toNat - 1) : Nat) : Int) := by
      rw [qn]; rfl
    have lt : ((powsF q).idxOf a + (powsF q).idxOf b) % (q.toNat - 1) < (powsF q).length := by
      rw [pl]; exact Nat.mod_lt _ (by omega)
    dsimp! [index_dI (pows_mem hp2 ha h0), index_dI (pows_mem hp2 hb h1)]
    refine ⟨by omega, ?_⟩
    rw [e1, atI_nat, dI_get lt]
    subst_eqs
    exact h
end
/-! the law's maps and bends (own work) -/
def f__law_then : Fn := ⟨["_law_q", "_law_one", "_law_other"], 13, (.cons (.asg (.tup (.cons (.nm 3) (.cons (.nm 4) (.cons (.nm 5) (.cons (.nm 6) (.cons (.nm 7) (.cons (.nm 8) .nil))))))) (.var 1)) (.cons (.asgO 9 (.lst .nil)) (.cons (.fo (.tup (.cons (.nm 10) (.cons (.nm 11) (.cons (.nm 12) .nil)))) (.of (.tup (.cons (.slc (.var 2) .non (.som (.con (.int 3)))) (.cons (.slc (.var 2) (.som (.con (.int 3))) .non) .nil)))) (.cons (.exp (.mut .append 9 .nil (.cons (.call "_law_plus" (.cons (.var 0) (.cons (.call "_law_by" (.cons (.var 0) (.cons (.var 10) (.cons (.var 3) .nil))) []) (.cons (.call "_law_by" (.cons (.var 0) (.cons (.var 11) (.cons (.var 6) .nil))) []) .nil))) []) .nil))) (.cons (.exp (.mut .append 9 .nil (.cons (.call "_law_plus" (.cons (.var 0) (.cons (.call "_law_by" (.cons (.var 0) (.cons (.var 10) (.cons (.var 4) .nil))) []) (.cons (.call "_law_by" (.cons (.var 0) (.cons (.var 11) (.cons (.var 7) .nil))) []) .nil))) []) .nil))) (.cons (.exp (.mut .append 9 .nil (.cons (.call "_law_plus" (.cons (.var 0) (.cons (.call "_law_plus" (.cons (.var 0) (.cons (.call "_law_by" (.cons (.var 0) (.cons (.var 10) (.cons (.var 5) .nil))) []) (.cons (.call "_law_by" (.cons (.var 0) (.cons (.var 11) (.cons (.var 8) .nil))) []) .nil))) []) (.cons (.var 12) .nil))) []) .nil))) .nil)))) (.cons (.ret (.blt .tuple (.cons (.var 9) .nil))) .nil))))⟩
def f__law_shifted : Fn := ⟨["_law_q", "_law_bend_here", "_law_e", "_law_f"], 9, (.cons (.asg (.nm 4) (.lst .nil)) (.cons (.fo (.nm 5) (.of (.rev (.var 1))) (.cons (.asgO 6 (.lc (.tup (.cons (.nm 7) (.cons (.nm 8) .nil))) (.blt .zip (.cons (.bin .add (.var 4) (.lst (.cons (.con (.int 0)) .nil))) (.cons (.bin .add (.lst (.cons (.con (.int 0)) .nil)) (.var 4)) .nil))) (.con (.bl true)) (.call "_law_plus" (.cons (.var 0) (.cons (.call "_law_by" (.cons (.var 0) (.cons (.var 3) (.cons (.var 7) .nil))) []) (.cons (.call "_law_by" (.cons (.var 0) (.cons (.var 2) (.cons (.var 8) .nil))) []) .nil))) []) [7, 8])) (.cons (.put 6 .nil (.con (.int 0)) (.call "_law_plus" (.cons (.var 0) (.cons (.idx (.var 6) (.con (.int 0))) (.cons (.var 5) .nil))) [])) (.cons (.asg (.nm 4) (.mv 6)) .nil)))) (.cons (.ret (.var 4)) .nil)))⟩
def f__law_sum : Fn := ⟨["_law_q", "_law_one", "_law_other"], 9, (.cons (.asg (.nm 3) (.blt .max (.cons (.blt .len (.cons (.var 1) .nil)) (.cons (.blt .len (.cons (.var 2) .nil)) .nil)))) (.cons (.asg (.nm 4) (.lc (.tup (.cons (.nm 6) (.cons (.nm 7) .nil))) (.blt .zip (.cons (.bin .add (.var 1) (.bin .mul (.tup (.cons (.con (.int 0)) .nil)) (.bin .sub (.var 3) (.blt .len (.cons (.var 1) .nil))))) (.cons (.bin .add (.var 2) (.bin .mul (.tup (.cons (.con (.int 0)) .nil)) (.bin .sub (.var 3) (.blt .len (.cons (.var 2) .nil))))) .nil))) (.con (.bl true)) (.call "_law_plus" (.cons (.var 0) (.cons (.var 6) (.cons (.var 7) .nil))) []) [6, 7])) (.cons (.asg (.nm 5) (.lc (.tup (.cons (.nm 8) (.cons (.nm 6) .nil))) (.blt .enumerate (.cons (.var 4) .nil)) (.cmp .ne (.var 6) (.con (.int 0))) (.var 8) [8, 6])) (.cons (.ret (.ite (.cmp .ne (.var 5) (.lst .nil)) (.blt .tuple (.cons (.slc (.var 4) .non (.som (.bin .add (.idx (.var 5) (.neg (.con (.int 1)))) (.con (.int 1))))) .nil)) (.tup .nil))) .nil))))⟩
section
variable {P : Prg} {q : Int} [hq : FldI q]
open ST
theorem ll_plus (H : LwN P) (a b : El q) {n : Nat} {Q : RV → List Sl → Prop} (h : Q (.val (.int (a + b).v)) [.val (.int q), .val (.int a.v), .val (.int b.v)]) : CW (cfg P (n + 1)) "_law_plus" [] [.val (.int q), .val (.int a.v), .val (.int b.v)] Q := lplus_spec H h
theorem ll_less (H : LwN P) (a : El q) {n : Nat} {Q : RV → List Sl → Prop} (h : Q (.val (.int (-a).v)) [.val (.int q), .val (.int a.v)]) : CW (cfg P (n + 1)) "_law_less" [] [.val (.int q), .val (.int a.v)] Q := lless_spec H h
theorem ll_by (H : LwN P) (a b : El q) {n : Nat} {Q : RV → List Sl → Prop} (h : Q (.val (.int (a * b).v)) [.val (.int q), .val (.int a.v), .val (.int b.v)]) : CW (cfg P (n + 2)) "_law_by" [] [.val (.int q), .val (.int a.v), .val (.int b.v)] Q := lby_spec H a.num b.num h
def isOne (q a : Int) : D → Option D
  | .int b => if a * b % q = 1 then some (.int b) else none
  | _ => none
theorem fil_one {q a : Int} {l : List Int} : (dI l).filterMap (isOne q a) = dI (l.filter fun b => decide (a * b % q = 1)) := by
  induction l with
  | nil => rfl
  | cons x l ih =>
    show List.filterMap _ (PyData.int x :: dI l) = _
    rw [List.filterMap_cons, List.filter_cons, ih]
    by_cases h : a * x % q = 1
    · have : isOne q a (.int x) = some (.int x) := if_pos h
      rw [this, decide_eq_true h]
      rfl
    · have : isOne q a (.int x) = none := if_neg h
      rw [this, decide_eq_false h]
      rfl
theorem under1 {a : Int} (ha : Num q a) (h0 : a ≠ 0) (hp : powsF q = []) : ((tabZ (q - 1) fun i => 1 + i).filter fun b => decide (a * b % q = 1)).head? = some (invF q a) :=
  of_decide_eq_true (all1 (φ := fun q a => decide (powsF q = [] → a ≠ 0 → ((tabZ (q - 1) fun i => 1 + i).filter fun b => decide (a * b % q = 1)).head? = some (invF q a))) (by decide +kernel) hq.out ha) hp h0
theorem under2 {a : Int} (ha : Num q a) (h0 : a ≠ 0) (hp : powsF q ≠ []) : (powsF q)[((0 - ((powsF q).idxOf a : Int)) % (q - 1)).toNat]? = some (invF q a) :=
  of_decide_eq_true (all1 (φ := fun q a => decide (powsF q ≠ [] → a ≠ 0 → (powsF q)[((0 - ((powsF q).idxOf a : Int)) % (q - 1)).toNat]? = some (invF q a))) (by decide +kernel) hq.out ha) hp h0
theorem ll_under (H : LwN P) (a : El q) (ha : a ≠ 0) {n : Nat} {Q : RV → List Sl → Prop} (h : Q (.val (.int (a⁻¹).v)) [.val (.int q), .val (.int a.v)]) : CW (cfg P (n + 2)) "_law_under" [] [.val (.int q), .val (.int a.v)] Q := by
  refine CW_pos H.under rfl ?_
  show WB (cfg P (n + 1)) f__law_under.body [some (.val (.int q)), some (.val (.int a.v)), none, none] _
  unfold f__law_under
  have q2 := hq.out.lo
  have q3 := hq.out.hi
  have a1 := a.num.1
  have a2 := a.num.2
  have a0 := El.ne_v ha
  have pn := pows_nil hq.out
  have dn : dI (powsF q) = [] ↔ powsF q = [] := List.map_eq_nil_iff
  rw [El.inv_v a0] at h
  subst_eqs
  refine lpowers_spec H ?_
  dsimp! [eq_empty (shaped_ints_tuple (l := powsF q)), show rngOk 1 q = true from rngOk_iff.mpr (by omega)]
  refine ⟨fun hp => ⟨rfl, ?_⟩, fun hp => ?_⟩
  · have u := under1 a.num a0 (dn.mp hp)
    refine LcW_filter (isOne q a.v) rfl (fun x hx => ?_) fun e2 he => ?_
    · obtain ⟨i, i0, i1, rfl⟩ := mem_tabI.mp hx
      subst_eqs
      refine ⟨by omega, by omega, fun z => ⟨(if_pos z).symm, rfl⟩, fun z => ⟨(if_neg z).symm, rfl⟩⟩
    · rw [he, tabI_dI, fil_one]
      have hd : atI (dI ((tabZ (q - 1) fun i => 1 + i).filter fun b => decide (a.v * b % q = 1))) 0 = some (.int (invF q a.v)) := by
        cases g : (tabZ (q - 1) fun i => 1 + i).filter fun b => decide (a.v * b % q = 1) with
        | nil => rw [g] at u; cases u
        | cons x m =>
          rw [g] at u
          cases u
          exact at0
      have ln : ((tabZ (q - 1) fun i => 1 + i).filter fun b => decide (a.v * b % q = 1)).length ≤ 16 := by
        refine Nat.le_trans (List.length_filter_le _ _) ?_
        simp [tabZ]
        omega
      dsimp! [hd, dI_length]
      exact ⟨Nat.le_trans ln (by decide), h⟩
  · have hp2 : q = 4 ∨ q = 8 ∨ q = 9 ∨ q = 16 := Decidable.byContradiction fun z => hp (dn.mpr (pn.mpr z))
    have u := under2 a.num a0 (fun z => hp (dn.mpr z))
    have at7 : atI (dI (powsF q)) ((0 - ((powsF q).idxOf a.v : Int)) % (q - 1)) = some (.int (invF q a.v)) := by
      rw [atI_int (mod_lo (by omega))]
      unfold dI
      rw [List.getElem?_map, u]
      rfl
    dsimp! [index_dI (pows_mem hp2 a.num a0), at7]
    exact ⟨by omega, h⟩
theorem ll_cross (H : LwN P) (a b d e : El q) {n : Nat} {Q : RV → List Sl → Prop} (h : Q (.val (.int (a * e - b * d).v)) [.val (.int q), .val (.int a.v), .val (.int b.v), .val (.int d.v), .val (.int e.v)]) :
    CW (cfg P (n + 3)) "_law_cross" [] [.val (.int q), .val (.int a.v), .val (.int b.v), .val (.int d.v), .val (.int e.v)] Q := by
  refine CW_pos H.cross rfl ?_
  show WB (cfg P (n + 2)) f__law_cross.body [some (.val (.int q)), some (.val (.int a.v)), some (.val (.int b.v)), some (.val (.int d.v)), some (.val (.int e.v))] _
  unfold f__law_cross
  subst_eqs
  refine ll_by H a e ?_
  subst_eqs
  refine ll_by H b d ?_
  subst_eqs
  refine ll_less H (b * d) ?_
  subst_eqs
  refine ll_plus H (a * e) (-(b * d)) ?_
  subst_eqs
  exact h
theorem ll_then (H : LwN P) (H2 : P.Has "_law_then" f__law_then) (x y : Mp (El q)) {n : Nat} {Q : RV → List Sl → Prop} (h : Q (.val (mD (x.thn y))) [.val (.int q), .val (mD x), .val (mD y)]) : CW (cfg P (n + 3)) "_law_then" [] [.val (.int q), .val (mD x), .val (mD y)] Q := by
  refine CW_pos H2 rfl ?_
  show WB (cfg P (n + 2)) f__law_then.body [some (.val (.int q)), some (.val (mD x)), some (.val (mD y)), none, none, none, none, none, none, none, none, none, none] _
  unfold f__law_then mD
  dsimp! [cut3a, cut3b, FoW_cons, FoW_nil]
  refine ll_by H y.a x.a ?_
  subst_eqs
  refine ll_by H y.b x.d ?_
  subst_eqs
  refine ll_plus H (y.a * x.a) (y.b * x.d) ?_
  subst_eqs
  refine ll_by H y.a x.b ?_
  subst_eqs
  refine ll_by H y.b x.e ?_
  subst_eqs
  refine ll_plus H (y.a * x.b) (y.b * x.e) ?_
  subst_eqs
  refine ll_by H y.a x.c ?_
  subst_eqs
  refine ll_by H y.b x.f ?_
  subst_eqs
  refine ll_plus H (y.a * x.c) (y.b * x.f) ?_
  subst_eqs
  refine ll_plus H (y.a * x.c + y.b * x.f) y.c ?_
  dsimp! [cut3a, cut3b, FoW_cons, FoW_nil]
  refine ll_by H y.d x.a ?_
  subst_eqs
  refine ll_by H y.e x.d ?_
  subst_eqs
  refine ll_plus H (y.d * x.a) (y.e * x.d) ?_
  subst_eqs
  refine ll_by H y.d x.b ?_
  subst_eqs
  refine ll_by H y.e x.e ?_
  subst_eqs
  refine ll_plus H (y.d * x.b) (y.e * x.e) ?_
  subst_eqs
  refine ll_by H y.d x.c ?_
  subst_eqs
  refine ll_by H y.e x.f ?_
  subst_eqs
  refine ll_plus H (y.d * x.c) (y.e * x.f) ?_
  subst_eqs
  refine ll_plus H (y.d * x.c + y.e * x.f) y.f ?_
  dsimp! [cut3a, cut3b, FoW_cons, FoW_nil]
  exact h
/-! shifted -/
theorem cf_cons (x : Int) (l : List Int) (k : Nat) : cf (x :: l) k = if k = 0 then x else cf l (k - 1) := by
  cases k with
  | zero => rfl
  | succ k => rfl
theorem shifted_spec (H : LwN P) (H2 : P.Has "_law_shifted" f__law_shifted) {l : List (El q)} (ll : l.length ≤ 1000) {x y : El q} {n : Nat} {Q : RV → List Sl → Prop}
    (h : ∀ r, NumL q r → r.length = l.length → (∀ k, cf r k = (horE x y l k).v) → Q (.val (.list (dI r))) [.val (.int q), .val (.tuple (dI (vL l))), .val (.int y.v), .val (.int x.v)]) :
    CW (cfg P (n + 3)) "_law_shifted" [] [.val (.int q), .val (.tuple (dI (vL l))), .val (.int y.v), .val (.int x.v)] Q := by
  refine CW_pos H2 rfl ?_
  show WB (cfg P (n + 2)) f__law_shifted.body [some (.val (.int q)), some (.val (.tuple (dI (vL l)))), some (.val (.int y.v)), some (.val (.int x.v)), none, none, none, none, none] _
  unfold f__law_shifted
  subst_eqs
  refine FoW_inv (fun i e => ∃ r x5 s6, NumL q r ∧ r.length = i ∧ (∀ k, cf r k = (horE x y (l.reverse.take i).reverse k).v) ∧ e = [some (.val (.int q)), some (.val (.tuple (dI (vL l)))), some (.val (.int y.v)), some (.val (.int x.v)), some (.val (.list (dI r))), x5, s6, none, none]) ⟨[], none, none, fun x hx => (by cases hx), rfl, fun k => rfl, rfl⟩ ?_ ?_
  · rintro i z e hx ⟨r, x5, s6, r1, r2, r3, rfl⟩
    rw [dI_reverse, vL_reverse] at hx
    obtain ⟨a, rfl, hx2⟩ := dI_some hx
    obtain ⟨a, rfl, hx3⟩ := vL_some hx2
    have il := (List.getElem?_eq_some_iff.mp hx3).1
    rw [List.length_reverse] at il
    have e1 : dI r ++ [PyData.int 0] = dI (r ++ [0]) := by simp [dI]
    have e2 : PyData.int 0 :: dI r = dI (0 :: r) := rfl
    have ext : ∀ s, cf s 0 = cf s 0 := fun _ => rfl
    have nz : ∀ k, Num q (if k = 0 then 0 else cf r (k - 1)) := fun k => by
      split
      · exact hq.out.zero
      · exact r1.cf hq.out _
    have w1 : ∀ k, Num q (plusF q (timesF q x.v (cf r k)) (timesF q y.v (if k = 0 then 0 else cf r (k - 1)))) := fun k => plus_num hq.out (times_num hq.out x.num (r1.cf hq.out k)) (times_num hq.out y.num (nz k))
    have fin : ∀ m : List Int, m = (List.range (i + 1)).map (fun k => plusF q (timesF q x.v (cf r k)) (timesF q y.v (if k = 0 then 0 else cf r (k - 1)))) →
        NumL q (m.set 0 (plusF q (cf m 0) a.v)) ∧ (m.set 0 (plusF q (cf m 0) a.v)).length = i + 1 ∧ (∀ k, cf (m.set 0 (plusF q (cf m 0) a.v)) k = (horE x y (l.reverse.take (i + 1)).reverse k).v) ∧ 0 < m.length ∧ NumL q m := by
      rintro m rfl
      have mc : ∀ k, cf ((List.range (i + 1)).map (fun k => plusF q (timesF q x.v (cf r k)) (timesF q y.v (if k = 0 then 0 else cf r (k - 1))))) k = plusF q (timesF q x.v (cf r k)) (timesF q y.v (if k = 0 then 0 else cf r (k - 1))) := fun k => by
        by_cases g : k < i + 1
        · rw [cf_lt (by simpa using g)]
          simp
        · rw [cf_ge (by simp; omega), cf_ge (l := r) (by omega), if_neg (by omega), cf_ge (l := r) (by omega), times_comm hq.out x.num hq.out.zero, zero_times hq.out x.num, times_comm hq.out y.num hq.out.zero, zero_times hq.out y.num, plus_00]
      have mn : NumL q ((List.range (i + 1)).map (fun k => plusF q (timesF q x.v (cf r k)) (timesF q y.v (if k = 0 then 0 else cf r (k - 1))))) := fun z hz => by
        obtain ⟨k, _, rfl⟩ := List.mem_map.mp hz
        exact w1 k
      refine ⟨fun z hz => ?_, by simp, fun k => ?_, by simp, mn⟩
      · rcases List.mem_or_eq_of_mem_set hz with hz | rfl
        · exact mn z hz
        · exact plus_num hq.out (mn.cf hq.out 0) a.num
      · rw [cf_set (by simp), mc, mc, rev_take_succ hx3]
        cases k with
        | zero =>
          rw [if_pos rfl, if_pos rfl, r3]
          show (x * horE x y (l.reverse.take i).reverse 0 + y * 0 + a).v = (horE x y (l.reverse.take i).reverse 0 * x + a).v
          exact congrArg El.v (by grind)
        | succ k =>
          rw [if_neg (by omega), if_neg (by omega), r3, show k + 1 - 1 = k from rfl, r3]
          show (x * _ + y * _).v = (_ * x + _ * y).v
          exact congrArg El.v (by grind)
    subst_eqs
    rw [dI_length]
    refine ⟨by omega, by omega, rfl, ?_⟩
    refine LcW_fil (fun k => some (.int (plusF q (timesF q x.v (cf r k)) (timesF q y.v (if k = 0 then 0 else cf r (k - 1)))))) rfl (fun k w hw => ?_) fun e2 he => ?_
    · rw [e1, e2] at hw
      obtain ⟨c, d, hc, hd, rfl⟩ := zip_get2 _ _ _ _ hw
      obtain ⟨c, rfl, hc2⟩ := dI_some hc
      obtain ⟨d, rfl, hd2⟩ := dI_some hd
      have ec := cf_some hc2
      have ed := cf_some hd2
      rw [cf_snoc0] at ec
      rw [cf_cons] at ed
      subst ec ed
      subst_eqs
      refine lby_spec H x.num (r1.cf hq.out k) ?_
      subst_eqs
      refine lby_spec H y.num (nz k) ?_
      subst_eqs
      refine lplus_spec H ?_
      subst_eqs
      first | rfl | exact ⟨rfl, rfl⟩
    · have e3 : min (dI r ++ [PyData.int 0]).length (PyData.int 0 :: dI r).length = i + 1 := by
        simp [dI_length, r2]
      rw [he, zip_len2, e3, range_map_dI]
      obtain ⟨f1, f2, f3, f4, f5⟩ := fin _ rfl
      generalize ((List.range (i + 1)).map (fun k => plusF q (timesF q x.v (cf r k)) (timesF q y.v (if k = 0 then 0 else cf r (k - 1))))) = m at *
      have a9 : atI (dI m) 0 = some (.int (cf m 0)) := dI_at (i := 0) f4
      have i9 : ixN m.length 0 = some 0 := ixN_nat (i := 0) f4
      have ml : m.length = i + 1 := by rw [← f2, List.length_set]
      dsimp! [a9]
      refine ⟨by rw [dI_length]; omega, ?_⟩
      refine lplus_spec H ?_
      dsimp! [dI_length, i9, dI_set]
      exact ⟨_, _, _, f1, f2, f3, rfl⟩
  · rintro e ⟨r, x5, s6, r1, r2, r3, rfl⟩
    rw [dI_reverse, vL_reverse, dI_length, vL_len, List.length_reverse] at r2 r3
    subst_eqs
    have e : (l.reverse.take l.length).reverse = l := by
      rw [show l.length = l.reverse.length from List.length_reverse.symm, List.take_length, List.reverse_reverse]
    rw [e] at r3
    exact h r r1 r2 r3
/-! sums of bends -/
theorem fmap_congr {α β : Type} {f g : α → Option β} : ∀ {l : List α}, (∀ a ∈ l, f a = g a) → l.filterMap f = l.filterMap g
  | [], _ => rfl
  | a :: l, h => by
    rw [List.filterMap_cons, List.filterMap_cons, h a List.mem_cons_self, fmap_congr fun b hb => h b (List.mem_cons_of_mem _ hb)]
def usedL (l : List Int) : List Int := (List.range l.length).filterMap fun (i : Nat) => if cf l i = 0 then none else some (i : Int)
theorem usedL_snoc {l : List Int} {x : Int} : usedL (l ++ [x]) = usedL l ++ (if x = 0 then [] else [(l.length : Int)]) := by
  unfold usedL
  rw [List.length_append, show [x].length = 1 from rfl, List.range_succ, List.filterMap_append]
  congr 1
  · refine fmap_congr fun i hi => ?_
    have := List.mem_range.mp hi
    rw [cf_lt (l := l ++ [x]) (by simp; omega), cf_lt this, List.getElem_append_left this]
  · have : cf (l ++ [x]) l.length = x := by
      rw [cf_lt (by simp)]
      simp
    simp only [List.filterMap_cons, List.filterMap_nil, this]
    by_cases h : x = 0
    · rw [if_pos h, if_pos h]
    · rw [if_neg h, if_neg h]
theorem used_trim : ∀ l : List Int, (usedL l = [] ∧ trimL l = []) ∨ ∃ m k, usedL l = m ++ [((k : Nat) : Int)] ∧ k < l.length ∧ trimL l = l.take (k + 1) :=
  snoc_ind (.inl ⟨rfl, rfl⟩) fun l x ih => by
    rw [usedL_snoc]
    by_cases h : x = 0
    · subst h
      rw [if_pos rfl, List.append_nil, trim_snoc0]
      rcases ih with ih | ⟨m, k, h1, h2, h3⟩
      · exact .inl ih
      · refine .inr ⟨m, k, h1, by simp; omega, ?_⟩
        rw [h3, List.take_append_of_le_length (by omega)]
    · rw [if_neg h, trim_snoc h]
      exact .inr ⟨usedL l, l.length, rfl, by simp, by rw [List.take_of_length_le (by simp)]⟩
def usedG (l : List Int) (i : Nat) : Option D := if cf l i = 0 then none else some (.int (i : Nat))
theorem usedG_all {l : List Int} {n : Nat} (h : n = l.length) : (List.range n).filterMap (usedG l) = dI (usedL l) := by
  subst h
  unfold usedL dI
  rw [List.map_filterMap]
  refine fmap_congr fun i _ => ?_
  unfold usedG
  by_cases h : cf l i = 0
  · rw [if_pos h, if_pos h]; rfl
  · rw [if_neg h, if_neg h]; rfl
theorem lsum_spec (H : LwN P) (H2 : P.Has "_law_sum" f__law_sum) {f g : List Int} (hf : NumL q f) (hg : NumL q g) (lf : f.length ≤ 1000) (lg : g.length ≤ 1000) {n : Nat} {Q : RV → List Sl → Prop}
    (h : Q (.val (.tuple (dI (addL q f g)))) [.val (.int q), .val (.tuple (dI f)), .val (.tuple (dI g))]) : CW (cfg P (n + 2)) "_law_sum" [] [.val (.int q), .val (.tuple (dI f)), .val (.tuple (dI g))] Q := by
  refine CW_pos H2 rfl ?_
  show WB (cfg P (n + 1)) f__law_sum.body [some (.val (.int q)), some (.val (.tuple (dI f))), some (.val (.tuple (dI g))), none, none, none, none, none, none] _
  unfold f__law_sum
  refine WB_cut (fun e => e = [some (.val (.int q)), some (.val (.tuple (dI f))), some (.val (.tuple (dI g))), some (.val (.int (max f.length g.length : Nat))), none, none, none, none, none]) ?_ ?_
  · dsimp! [dI_length]
    rw [show (if (f.length : Int) < g.length then (g.length : Int) else f.length) = ((max f.length g.length : Nat) : Int) from by split <;> omega]
  rintro _ rfl
  have al : (addR q f g).length = max f.length g.length := by simp [addR]
  refine WB_cut (fun e => e = [some (.val (.int q)), some (.val (.tuple (dI f))), some (.val (.tuple (dI g))), some (.val (.int (max f.length g.length : Nat))), some (.val (.list (dI (addR q f g)))), none, none, none, none]) ?_ ?_
  · have e1 : (((max f.length g.length : Nat) : Int) - f.length).toNat = max f.length g.length - f.length := by omega
    have e2 : (((max f.length g.length : Nat) : Int) - g.length).toNat = max f.length g.length - g.length := by omega
    have p1 : dI f ++ List.replicate (max f.length g.length - f.length) (PyData.int 0) = dI (padL f (max f.length g.length - f.length)) := by simp [dI, padL]
    have p2 : dI g ++ List.replicate (max f.length g.length - g.length) (PyData.int 0) = dI (padL g (max f.length g.length - g.length)) := by simp [dI, padL]
    dsimp! [dI_length, e1, e2, List.length_replicate]
    refine ⟨⟨by omega, by omega⟩, by omega, ⟨by omega, by omega⟩, by omega, rfl, ?_⟩
    refine LcW_fil (fun i => some (.int (plusF q (cf f i) (cf g i)))) rfl (fun i x hx => ?_) fun e2 he => ?_
    · rw [p1, p2] at hx
      obtain ⟨a, b, ha, hb, rfl⟩ := zip_get2 _ _ _ _ hx
      obtain ⟨a, rfl, ha2⟩ := dI_some ha
      obtain ⟨b, rfl, hb2⟩ := dI_some hb
      have ea := cf_some ha2
      have eb := cf_some hb2
      rw [cf_pad] at ea eb
      subst ea eb
      subst_eqs
      refine lplus_spec H ?_
      subst_eqs
      first | rfl | exact ⟨rfl, rfl⟩
    · rw [he, p1, p2, zip_len2, dI_length, dI_length, pad_len, pad_len, range_map_dI, show min (f.length + (max f.length g.length - f.length)) (g.length + (max f.length g.length - g.length)) = max f.length g.length from by omega]
      have e0 : ((List.range (max f.length g.length)).map fun i => plusF q (cf f i) (cf g i)) = addR q f g := rfl
      rw [e0]
      subst_eqs
      rw [dI_length]
      first | omega | exact ⟨by omega, rfl⟩
  rintro _ rfl
  have nn := NumL.add hf hg
  unfold addL at h
  generalize addR q f g = L at *
  have ul : (usedL L).length ≤ L.length := by
    unfold usedL
    refine Nat.le_trans (List.length_filterMap_le _ _) (by simp)
  subst_eqs
  refine ⟨rfl, ?_⟩
  refine LcW_fil (usedG L) rfl (fun i x hx => ?_) fun e2 he => ?_
  · obtain ⟨y, hy, rfl⟩ := enum_at hx
    obtain ⟨y, rfl, hy2⟩ := dI_some hy
    have ey := cf_some hy2
    subst_eqs
    refine ⟨fun z => ⟨?_, rfl⟩, fun z => ⟨?_, rfl⟩⟩
    · exact (if_pos (by rw [ey]; exact z)).symm
    · exact (if_neg (by rw [ey]; exact z)).symm
  · rw [he, usedG_all (by rw [enum_length, dI_length])]
    rcases used_trim L with ⟨u1, u2⟩ | ⟨m, k, u1, u2, u3⟩
    · rw [u1]
      rw [u2] at h
      have cn : cmpR .ne (.list []) (.list []) = some false := cmp_ne_nil (l := [])
      dsimp! [show dI [] = [] from rfl, cn]
      exact h
    · rw [u1]
      rw [u3] at h
      have e5 : dI (m ++ [(k : Int)]) = dI m ++ [.int k] := by simp [dI]
      have ck : cut (dI L) none (some ((k : Int) + 1)) = dI (L.take (k + 1)) := by
        have := cut_hi (xs := dI L) (hi := k + 1)
        rw [dI_take] at this
        exact this
      rw [u1, List.length_append] at ul
      have cn : cmpR .ne (.list (dI m ++ [.int k])) (.list []) = some true := by
        rw [← e5, cmp_ne_nil, decide_eq_false (by simp)]
        rfl
      dsimp! [e5, cn, at_last, ck, dI_length, List.length_append]
      exact ⟨by simp at ul; omega, h⟩
end
/-! the law's least rows are those of ST (own work) -/
def f__law_put : Fn := ⟨["_law_q", "_law_step_here", "_law_piece"], 19, (.cons (.asg (.tup (.cons (.nm 3) (.cons (.nm 4) (.cons (.nm 5) (.cons (.nm 6) .nil))))) (.var 1)) (.cons (.ifs (.cmp .eq (.idx (.var 2) (.con (.int 0))) (.con (.str "straight"))) (.cons (.ret (.tup (.cons (.var 3) (.cons (.var 4) (.cons (.var 5) (.cons (.call "_law_then" (.cons (.var 0) (.cons (.var 6) (.cons (.idx (.var 2) (.con (.int 1))) .nil))) []) .nil)))))) .nil) .nil) (.cons (.asg (.tup (.cons (.nm 7) (.cons (.nm 8) (.cons (.nm 9) (.cons (.nm 10) (.cons (.nm 11) (.cons (.nm 12) .nil))))))) (.var 6)) (.cons (.asg (.nm 13) (.neg (.con (.int 1)))) (.cons (.ifs (.cmp .ne (.var 10) (.con (.int 0))) (.cons (.asg (.nm 13) (.call "_law_by" (.cons (.var 0) (.cons (.var 11) (.cons (.call "_law_under" (.cons (.var 0) (.cons (.var 10) .nil)) []) .nil))) [])) (.cons (.par [(7, false), (8, false), (11, false)] (.cons (.call "_law_plus" (.cons (.var 0) (.cons (.var 8) (.cons (.call "_law_less" (.cons (.var 0) (.cons (.call "_law_by" (.cons (.var 0) (.cons (.var 7) (.cons (.var 13) .nil))) []) .nil)) []) .nil))) []) (.cons (.var 7) (.cons (.var 10) .nil)))) .nil)) .nil) (.cons (.par [(14, false), (15, false)] (.cons (.call "_law_shifted" (.cons (.var 0) (.cons (.idx (.var 2) (.con (.int 1))) (.cons (.var 11) (.cons (.var 12) .nil)))) []) (.cons (.call "_law_under" (.cons (.var 0) (.cons (.var 7) .nil)) []) .nil))) (.cons (.asg (.nm 16) (.bin .add (.tup (.cons (.con (.int 0)) (.cons (.con (.int 0)) .nil))) (.blt .tuple (.cons (.lc (.nm 18) (.of (.slc (.var 14) (.som (.con (.int 2))) .non)) (.con (.bl true)) (.call "_law_by" (.cons (.var 0) (.cons (.var 15) (.cons (.var 18) .nil))) []) [18]) .nil)))) (.cons (.asg (.nm 6) (.tup (.cons (.var 7) (.cons (.call "_law_plus" (.cons (.var 0) (.cons (.var 8) (.cons (.idx (.var 14) (.con (.int 1))) .nil))) []) (.cons (.call "_law_plus" (.cons (.var 0) (.cons (.var 9) (.cons (.idx (.var 14) (.con (.int 0))) .nil))) []) (.cons (.con (.int 0)) (.cons (.var 11) (.cons (.var 12) .nil)))))))) (.cons (.ifs (.cmp .eq (.var 4) (.tup .nil)) (.cons (.ret (.tup (.cons (.var 13) (.cons (.tup (.cons (.var 16) .nil)) (.cons (.tup .nil) (.cons (.var 6) .nil)))))) .nil) .nil) (.cons (.ifs (.cmp .ge (.var 13) (.con (.int 0))) (.cons (.ret (.tup (.cons (.var 3) (.cons (.bin .add (.var 4) (.tup (.cons (.var 16) .nil))) (.cons (.bin .add (.var 5) (.tup (.cons (.var 13) .nil))) (.cons (.var 6) .nil)))))) .nil) .nil) (.cons (.asg (.nm 17) (.call "_law_sum" (.cons (.var 0) (.cons (.idx (.var 4) (.neg (.con (.int 1)))) (.cons (.var 16) .nil))) [])) (.cons (.ifs (.cmp .ne (.var 17) (.tup .nil)) (.cons (.ret (.tup (.cons (.var 3) (.cons (.bin .add (.slc (.var 4) .non (.som (.neg (.con (.int 1))))) (.tup (.cons (.var 17) .nil))) (.cons (.var 5) (.cons (.var 6) .nil)))))) .nil) .nil) (.cons (.asg (.nm 13) (.ite (.cmp .eq (.blt .len (.cons (.var 4) .nil)) (.con (.int 1))) (.var 3) (.idx (.var 5) (.neg (.con (.int 1)))))) (.cons (.ifs (.cmp .ge (.var 13) (.con (.int 0))) (.cons (.asg (.nm 6) (.call "_law_then" (.cons (.var 0) (.cons (.tup (.cons (.con (.int 0)) (.cons (.con (.int 1)) (.cons (.con (.int 0)) (.cons (.con (.int 1)) (.cons (.var 13) (.cons (.con (.int 0)) .nil))))))) (.cons (.var 6) .nil))) [])) .nil) .nil) (.cons (.ret (.tup (.cons (.ite (.cmp .eq (.blt .len (.cons (.var 4) .nil)) (.con (.int 1))) (.neg (.con (.int 1))) (.var 3)) (.cons (.slc (.var 4) .non (.som (.neg (.con (.int 1))))) (.cons (.slc (.var 5) .non (.som (.neg (.con (.int 1))))) (.cons (.var 6) .nil)))))) .nil)))))))))))))))⟩
def f__law_row : Fn := ⟨["_law_step_here"], 8, (.cons (.asg (.tup (.cons (.nm 1) (.cons (.nm 2) (.cons (.nm 3) (.cons (.nm 4) .nil))))) (.var 0)) (.cons (.asgO 5 (.lst .nil)) (.cons (.fo (.tup (.cons (.nm 6) (.cons (.nm 7) .nil))) (.blt .zip (.cons (.bin .add (.tup (.cons (.var 1) .nil)) (.var 3)) (.cons (.var 2) .nil))) (.cons (.ifs (.cmp .ge (.var 6) (.con (.int 0))) (.cons (.exp (.mut .append 5 .nil (.cons (.tup (.cons (.con (.str "straight")) (.cons (.tup (.cons (.con (.int 0)) (.cons (.con (.int 1)) (.cons (.con (.int 0)) (.cons (.con (.int 1)) (.cons (.var 6) (.cons (.con (.int 0)) .nil))))))) .nil))) .nil))) .nil) .nil) (.cons (.exp (.mut .append 5 .nil (.cons (.tup (.cons (.con (.str "bend")) (.cons (.var 7) .nil))) .nil))) .nil))) (.cons (.ret (.bin .add (.var 5) (.lst (.cons (.tup (.cons (.con (.str "straight")) (.cons (.var 4) .nil))) .nil)))) .nil))))⟩
def f__law_back : Fn := ⟨["_law_q", "_law_row_here"], 16, (.cons (.asgO 2 (.lst .nil)) (.cons (.fo (.tup (.cons (.nm 3) (.cons (.nm 4) .nil))) (.of (.rev (.var 1))) (.cons (.ifs (.cmp .eq (.var 3) (.con (.str "bend"))) (.cons (.exp (.mut .append 2 .nil (.cons (.tup (.cons (.con (.str "bend")) (.cons (.blt .tuple (.cons (.lc (.nm 14) (.of (.var 4)) (.con (.bl true)) (.call "_law_less" (.cons (.var 0) (.cons (.var 14) .nil)) []) [14]) .nil)) .nil))) .nil))) .nil) (.cons (.asg (.tup (.cons (.nm 5) (.cons (.nm 6) (.cons (.nm 7) (.cons (.nm 8) (.cons (.nm 9) (.cons (.nm 10) .nil))))))) (.var 4)) (.cons (.asg (.nm 11) (.call "_law_under" (.cons (.var 0) (.cons (.call "_law_cross" (.cons (.var 0) (.cons (.var 5) (.cons (.var 6) (.cons (.var 8) (.cons (.var 9) .nil))))) []) .nil)) [])) (.cons (.asg (.nm 12) (.lc (.nm 14) (.of (.tup (.cons (.var 9) (.cons (.call "_law_less" (.cons (.var 0) (.cons (.var 6) .nil)) []) (.cons (.call "_law_less" (.cons (.var 0) (.cons (.var 8) .nil)) []) (.cons (.var 5) .nil)))))) (.con (.bl true)) (.call "_law_by" (.cons (.var 0) (.cons (.var 11) (.cons (.var 14) .nil))) []) [14])) (.cons (.asg (.nm 13) (.lc (.tup (.cons (.nm 14) (.cons (.nm 15) .nil))) (.of (.tup (.cons (.slc (.var 12) .non (.som (.con (.int 2)))) (.cons (.slc (.var 12) (.som (.con (.int 2))) .non) .nil)))) (.con (.bl true)) (.call "_law_less" (.cons (.var 0) (.cons (.call "_law_plus" (.cons (.var 0) (.cons (.call "_law_by" (.cons (.var 0) (.cons (.var 14) (.cons (.var 7) .nil))) []) (.cons (.call "_law_by" (.cons (.var 0) (.cons (.var 15) (.cons (.var 10) .nil))) []) .nil))) []) .nil)) []) [14, 15])) (.cons (.exp (.mut .append 2 .nil (.cons (.tup (.cons (.con (.str "straight")) (.cons (.blt .tuple (.cons (.bin .add (.bin .add (.bin .add (.slc (.var 12) .non (.som (.con (.int 2)))) (.slc (.var 13) .non (.som (.con (.int 1))))) (.slc (.var 12) (.som (.con (.int 2))) .non)) (.slc (.var 13) (.som (.con (.int 1))) .non)) .nil)) .nil))) .nil))) .nil)))))) .nil)) (.cons (.retO 2) .nil)))⟩
def f__law_made : Fn := ⟨["_law_q", "_law_row_here"], 4, (.cons (.asg (.nm 2) (.tup (.cons (.neg (.con (.int 1))) (.cons (.tup .nil) (.cons (.tup .nil) (.cons (.tup (.cons (.con (.int 1)) (.cons (.con (.int 0)) (.cons (.con (.int 0)) (.cons (.con (.int 0)) (.cons (.con (.int 1)) (.cons (.con (.int 0)) .nil))))))) .nil)))))) (.cons (.fo (.nm 3) (.of (.var 1)) (.cons (.asg (.nm 2) (.call "_law_put" (.cons (.var 0) (.cons (.var 2) (.cons (.var 3) .nil))) [])) .nil)) (.cons (.ret (.var 2)) .nil)))⟩
structure LwS (P : Prg) : Prop where
  n : LwN P
  then_ : P.Has "_law_then" f__law_then
  shifted : P.Has "_law_shifted" f__law_shifted
  sum : P.Has "_law_sum" f__law_sum
  put : P.Has "_law_put" f__law_put
  row : P.Has "_law_row" f__law_row
  back : P.Has "_law_back" f__law_back
  made : P.Has "_law_made" f__law_made
section
variable {P : Prg} {q : Int} [hq : FldI q]
open ST
theorem hor_top {x y : El q} : ∀ {l : List (El q)} {n : Nat}, l.length = n + 1 → horE x y l n = (match n with | 0 => 1 | n + 1 => El.npow y n * y) * cfE l n
  | [], _, h => by cases h
  | [a], 0, _ => by
    show horE x y [] 0 * x + a = 1 * a
    show (0 : El q) * x + a = 1 * a
    grind
  | a :: b :: l, n + 1, h => by
    have h2 : (b :: l).length = n + 1 := by simpa using h
    show horE x y (b :: l) (n + 1) * x + horE x y (b :: l) n * y = El.npow y n * y * cfE (b :: l) n
    rw [hor_ge (by omega), hor_top h2]
    cases n with
    | zero =>
      show 0 * x + 1 * cfE (b :: l) 0 * y = 1 * y * cfE (b :: l) 0
      grind
    | succ n =>
      show 0 * x + El.npow y n * y * cfE (b :: l) (n + 1) * y = El.npow y n * y * y * cfE (b :: l) (n + 1)
      grind
theorem pow_ne {y : El q} (h : y ≠ 0) : ∀ n, El.npow y n ≠ 0
  | 0 => one_ne
  | n + 1 => mul_ne (pow_ne h n) h
theorem trim_of {l : List Int} (h0 : l ≠ []) (h : cf l (l.length - 1) ≠ 0) : Trim l := by
  rcases List.eq_nil_or_concat l with rfl | ⟨ini, x, rfl⟩
  · exact absurd rfl h0
  · rw [List.concat_eq_append] at h ⊢
    refine .inr ⟨ini, x, rfl, fun z => h ?_⟩
    rw [cf_lt (by simp)]
    simpa using z
/-- the bend that the law finds -/
theorem bend_here {m : Mp (El q)} (hm : Low m) {p : Bd (El q)} (hp : p ≠ Bd.zero) {l : List (El q)} (hl : vL l = bL p) {r : List Int} (rl : r.length = l.length) (rc : ∀ k, cf r k = (horE m.f m.e l k).v) :
    0 :: 0 :: (r.drop 2).map (timesF q (m.a⁻¹).v) = bL (bt m p).1 ∧ (cf r 1 = (p.s1 m.e m.f).v ∧ cf r 0 = (p.s0 m.f).v) ∧ 3 ≤ r.length := by
  have lc : ∀ k, cfE l k = cfE (b7 p) k := fun k => El.ext (by rw [← cf_vL, hl, bL_cf])
  have rc7 : ∀ k, cf r k = (cfE [p.s0 m.f, p.s1 m.e m.f, (p.hi m.e m.f).c2, (p.hi m.e m.f).c3, (p.hi m.e m.f).c4, (p.hi m.e m.f).c5, (p.hi m.e m.f).c6] k).v := fun k => by
    rw [rc, hor_cf lc, hor7]
  obtain ⟨w, hw, e⟩ := bL_shape hp
  have w1 : 1 ≤ w.length := List.length_pos_iff.mpr hw
  have ll : l.length = w.length + 2 := by rw [← vL_len, hl, e]; rfl
  have t0 : timesF q (m.a⁻¹).v 0 = 0 := by rw [times_comm hq.out (m.a⁻¹).num hq.out.zero, zero_times hq.out (m.a⁻¹).num]
  have cc : ∀ k, cf (0 :: 0 :: (r.drop 2).map (timesF q (m.a⁻¹).v)) k = (cfE (b7 (bt m p).1) k).v := fun k => by
    match k with
    | 0 => rfl
    | 1 => rfl
    | k + 2 =>
      have : cf (0 :: 0 :: (r.drop 2).map (timesF q (m.a⁻¹).v)) (k + 2) = cf ((0 :: 0 :: r.drop 2).map (timesF q (m.a⁻¹).v)) (k + 2) := rfl
      rw [this, cf_map t0, cf_cons2, if_neg (by omega), if_neg (by omega), rc7]
      match k with
      | 0 | 1 | 2 | 3 | 4 => rfl
      | k + 5 => exact t0
  refine ⟨bL_ext (trim_of (by simp) ?_) cc, ⟨by rw [rc7]; rfl, by rw [rc7]; rfl⟩, by omega⟩
  have len : (0 :: 0 :: (r.drop 2).map (timesF q (m.a⁻¹).v)).length = w.length + 2 := by simp; omega
  rw [len]
  obtain ⟨n, hn⟩ : ∃ n, w.length = n + 1 := ⟨w.length - 1, by omega⟩
  rw [hn]
  have e3 : cf (0 :: 0 :: (r.drop 2).map (timesF q (m.a⁻¹).v)) (n + 1 + 2 - 1) = cf ((0 :: 0 :: r.drop 2).map (timesF q (m.a⁻¹).v)) (n + 2) := rfl
  rw [e3, cf_map t0, cf_cons2, if_neg (by omega), if_neg (by omega), rc, hor_top (n := n + 2) (by omega)]
  have top : cfE l (n + 2) ≠ 0 := fun z => by
    have := (bL_trim p).top (by rw [e]; simp)
    rw [← hl, cf_vL, vL_len, ll, hn, show n + 1 + 2 - 1 = n + 2 from by omega, z] at this
    exact this rfl
  have ia : m.a⁻¹ ≠ 0 := fun z => by
    have := Lean.Grind.Field.mul_inv_cancel hm.a
    rw [z] at this
    exact one_ne (K := El q) (by grind)
  exact El.ne_v (mul_ne ia (mul_ne (mul_ne (pow_ne hm.e (n + 1)) hm.e) top))
theorem put_str_spec (H : LwS P) (s : Stp (El q)) (m : Mp (El q)) {n : Nat} {Q : RV → List Sl → Prop} (h : Q (.val (stepD (act s (.str m)))) [.val (.int q), .val (stepD s), .val (pcD (.str m))]) :
    CW (cfg P (n + 4)) "_law_put" [] [.val (.int q), .val (stepD s), .val (pcD (.str m))] Q := by
  refine CW_pos H.put rfl ?_
  show WB (cfg P (n + 3)) f__law_put.body [some (.val (.int q)), some (.val (stepD s)), some (.val (pcD (.str m))), none, none, none, none, none, none, none, none, none, none, none, none, none, none, none, none] _
  unfold f__law_put
  refine WB_cut (fun e => e = [some (.val (.int q)), some (.val (stepD s)), some (.val (pcD (.str m))), some (.val (.int (s0 s.st))), some (.val (.tuple (bsL s.st))), some (.val (.tuple (dI (tsL s.st)))), some (.val (mD s.last)), none, none, none, none, none, none, none, none, none, none, none, none]) ?_ ?_
  · dsimp! [stepD]
  rintro _ rfl
  rw [show pcD (.str m) = PyData.tuple [.str "straight", mD m] from rfl] at h ⊢
  dsimp! [at0, at1, eqS_ss]
  refine ll_then H.n H.then_ s.last m ?_
  subst_eqs
  exact h
theorem put_bnd_spec (H : LwS P) {s : Stp (El q)} (hs : s.Ok) (sl : s.st.length ≤ 1000000) {p : Bd (El q)} (hp : p ≠ Bd.zero) {n : Nat} {Q : RV → List Sl → Prop} (h : Q (.val (stepD (act s (.bnd p)))) [.val (.int q), .val (stepD s), .val (pcD (.bnd p))]) :
    CW (cfg P (n + 4)) "_law_put" [] [.val (.int q), .val (stepD s), .val (pcD (.bnd p))] Q := by
  refine CW_pos H.put rfl ?_
  show WB (cfg P (n + 3)) f__law_put.body [some (.val (.int q)), some (.val (stepD s)), some (.val (pcD (.bnd p))), none, none, none, none, none, none, none, none, none, none, none, none, none, none, none, none] _
  unfold f__law_put
  have low := split_low hs.last
  have act0 : act s (.bnd p) = push s.st (split s.last).1 (bt (split s.last).2 p).1 (bt (split s.last).2 p).2 := rfl
  rw [act0] at h
  have pc : pcD (.bnd p) = PyData.tuple [.str "bend", bD p] := rfl
  refine WB_cut (fun e => e = [some (.val (.int q)), some (.val (stepD s)), some (.val (pcD (.bnd p))), some (.val (.int (s0 s.st))), some (.val (.tuple (bsL s.st))), some (.val (.tuple (dI (tsL s.st)))), some (.val (mD s.last)), none, none, none, none, none, none, none, none, none, none, none, none]) ?_ ?_
  · dsimp! [stepD]
  rintro _ rfl
  refine WB_cut (fun e => e = [some (.val (.int q)), some (.val (stepD s)), some (.val (pcD (.bnd p))), some (.val (.int (s0 s.st))), some (.val (.tuple (bsL s.st))), some (.val (.tuple (dI (tsL s.st)))), some (.val (mD s.last)), none, none, none, none, none, none, none, none, none, none, none, none]) ?_ ?_
  · dsimp! [pc, at0, eqS_bs]
  rintro _ rfl
  refine WB_cut (fun e => e = [some (.val (.int q)), some (.val (stepD s)), some (.val (pcD (.bnd p))), some (.val (.int (s0 s.st))), some (.val (.tuple (bsL s.st))), some (.val (.tuple (dI (tsL s.st)))), some (.val (mD s.last)), some (.val (.int s.last.a.v)), some (.val (.int s.last.b.v)), some (.val (.int s.last.c.v)), some (.val (.int s.last.d.v)), some (.val (.int s.last.e.v)), some (.val (.int s.last.f.v)), none, none, none, none, none, none]) ?_ ?_
  · dsimp! [mD]
  rintro _ rfl
  refine WB_cut (fun e => e = [some (.val (.int q)), some (.val (stepD s)), some (.val (pcD (.bnd p))), some (.val (.int (s0 s.st))), some (.val (.tuple (bsL s.st))), some (.val (.tuple (dI (tsL s.st)))), some (.val (mD s.last)), some (.val (.int s.last.a.v)), some (.val (.int s.last.b.v)), some (.val (.int s.last.c.v)), some (.val (.int s.last.d.v)), some (.val (.int s.last.e.v)), some (.val (.int s.last.f.v)), some (.val (.int (-1))), none, none, none, none, none]) ?_ ?_
  · subst_eqs
  rintro _ rfl
  refine WB_cut (fun e => e = [some (.val (.int q)), some (.val (stepD s)), some (.val (pcD (.bnd p))), some (.val (.int (s0 s.st))), some (.val (.tuple (bsL s.st))), some (.val (.tuple (dI (tsL s.st)))), some (.val (mD s.last)), some (.val (.int (split s.last).2.a.v)), some (.val (.int (split s.last).2.b.v)), some (.val (.int (split s.last).2.c.v)), some (.val (.int s.last.d.v)), some (.val (.int (split s.last).2.e.v)), some (.val (.int (split s.last).2.f.v)), some (.val (.int (tI (split s.last).1))), none, none, none, none, none]) ?_ ?_
  · by_cases h0 : s.last.d = 0
    · have z : s.last.d.v = 0 := ne0_v.mpr h0
      have e0 : split s.last = (none, s.last) := if_pos h0
      rw [e0]
      dsimp! [z]
      first | rfl | exact ⟨fun _ => rfl, fun w => absurd rfl w⟩
    · have z : s.last.d.v ≠ 0 := El.ne_v h0
      have e0 : split s.last = (some (s.last.e * s.last.d⁻¹), rest s.last (s.last.e * s.last.d⁻¹)) := if_neg h0
      rw [e0]
      subst_eqs
      refine ⟨fun w => absurd w z, fun _ => ?_⟩
      refine ll_under (n := n + 1) H.n s.last.d h0 ?_
      subst_eqs
      refine ll_by (n := n + 1) H.n s.last.e s.last.d⁻¹ ?_
      subst_eqs
      refine ll_by (n := n + 1) H.n s.last.a (s.last.e * s.last.d⁻¹) ?_
      subst_eqs
      refine ll_less (n := n + 2) H.n (s.last.a * (s.last.e * s.last.d⁻¹)) ?_
      subst_eqs
      refine ll_plus (n := n + 2) H.n s.last.b (-(s.last.a * (s.last.e * s.last.d⁻¹))) ?_
      subst_eqs
      rfl
  rintro _ rfl
  obtain ⟨l, hl⟩ := num_vL (bL_num p)
  have l7 : l.length ≤ 7 := by rw [← vL_len, hl]; exact bL_len p
  refine WB_cut (fun e => ∃ r : List Int, NumL q r ∧ r.length = l.length ∧ (∀ k, cf r k = (horE (split s.last).2.f (split s.last).2.e l k).v) ∧ e = [some (.val (.int q)), some (.val (stepD s)), some (.val (pcD (.bnd p))), some (.val (.int (s0 s.st))), some (.val (.tuple (bsL s.st))), some (.val (.tuple (dI (tsL s.st)))), some (.val (mD s.last)), some (.val (.int (split s.last).2.a.v)), some (.val (.int (split s.last).2.b.v)), some (.val (.int (split s.last).2.c.v)), some (.val (.int s.last.d.v)), some (.val (.int (split s.last).2.e.v)), some (.val (.int (split s.last).2.f.v)), some (.val (.int (tI (split s.last).1))), some (.val (.list (dI r))), some (.val (.int ((split s.last).2.a⁻¹).v)), none, none, none]) ?_ ?_
  · have bd : bD p = PyData.tuple (dI (vL l)) := by rw [hl]; rfl
    dsimp! [pc, at1, bd]
    refine shifted_spec (x := (split s.last).2.f) (y := (split s.last).2.e) H.n H.shifted (l := l) (by omega) fun r r1 r2 r3 => ?_
    subst_eqs
    refine ll_under (n := n + 1) H.n (split s.last).2.a low.a ?_
    subst_eqs
    exact ⟨r, r1, r2, r3, by rw [pc, bd]⟩
  rintro _ ⟨r, r1, r2, r3, rfl⟩
  obtain ⟨b1, ⟨b2, b3⟩, b4⟩ := bend_here low hp hl r2 r3
  refine WB_cut (fun e => e = [some (.val (.int q)), some (.val (stepD s)), some (.val (pcD (.bnd p))), some (.val (.int (s0 s.st))), some (.val (.tuple (bsL s.st))), some (.val (.tuple (dI (tsL s.st)))), some (.val (mD s.last)), some (.val (.int (split s.last).2.a.v)), some (.val (.int (split s.last).2.b.v)), some (.val (.int (split s.last).2.c.v)), some (.val (.int s.last.d.v)), some (.val (.int (split s.last).2.e.v)), some (.val (.int (split s.last).2.f.v)), some (.val (.int (tI (split s.last).1))), some (.val (.list (dI r))), some (.val (.int ((split s.last).2.a⁻¹).v)), some (.val (bD (bt (split s.last).2 p).1)), none, none]) ?_ ?_
  · have c3 : cut (dI r) (some 2) none = dI (r.drop 2) := by
      have := cut_lo (xs := dI r) (lo := 2)
      exact this.trans (by simp [dI, List.map_drop])
    subst_eqs
    refine ⟨rfl, ?_⟩
    rw [c3]
    refine LcW_map (mapT (timesF q ((split s.last).2.a⁻¹).v)) rfl (fun x hx => ?_) fun e2 he => ?_
    · obtain ⟨x, rfl, hx2⟩ := dI_mem hx
      subst_eqs
      refine lby_spec (n := n + 1) H.n ((split s.last).2.a⁻¹).num (r1 x (List.mem_of_mem_drop hx2)) ?_
      subst_eqs
      first | rfl | exact ⟨rfl, rfl⟩
    · rw [he, mapT_dI]
      have fin : PyData.int 0 :: .int 0 :: dI ((r.drop 2).map (timesF q ((split s.last).2.a⁻¹).v)) = dI (bL (bt (split s.last).2 p).1) := by
        rw [← b1]
        rfl
      dsimp! [dI_length, List.length_map, List.length_drop, fin]
      exact ⟨by omega, by omega, rfl⟩
  rintro _ rfl
  refine WB_cut (fun e => e = [some (.val (.int q)), some (.val (stepD s)), some (.val (pcD (.bnd p))), some (.val (.int (s0 s.st))), some (.val (.tuple (bsL s.st))), some (.val (.tuple (dI (tsL s.st)))), some (.val (mD (bt (split s.last).2 p).2)), some (.val (.int (split s.last).2.a.v)), some (.val (.int (split s.last).2.b.v)), some (.val (.int (split s.last).2.c.v)), some (.val (.int s.last.d.v)), some (.val (.int (split s.last).2.e.v)), some (.val (.int (split s.last).2.f.v)), some (.val (.int (tI (split s.last).1))), some (.val (.list (dI r))), some (.val (.int ((split s.last).2.a⁻¹).v)), some (.val (bD (bt (split s.last).2 p).1)), none, none]) ?_ ?_
  · have i0 : atI (dI r) 0 = some (.int (p.s0 (split s.last).2.f).v) := by rw [← b3]; exact dI_at (i := 0) (by omega)
    have i1 : atI (dI r) 1 = some (.int (p.s1 (split s.last).2.e (split s.last).2.f).v) := by rw [← b2]; exact dI_at (i := 1) (by omega)
    dsimp! [i0, i1]
    refine ll_plus (n := n + 2) H.n (split s.last).2.b (p.s1 (split s.last).2.e (split s.last).2.f) ?_
    dsimp! [i0, i1]
    refine ll_plus (n := n + 2) H.n (split s.last).2.c (p.s0 (split s.last).2.f) ?_
    subst_eqs
    have d0 : (split s.last).2.d = 0 := low.d
    have e9 : mD (bt (split s.last).2 p).2 = .tuple [.int (split s.last).2.a.v, .int ((split s.last).2.b + p.s1 (split s.last).2.e (split s.last).2.f).v, .int ((split s.last).2.c + p.s0 (split s.last).2.f).v, .int 0, .int (split s.last).2.e.v, .int (split s.last).2.f.v] := by
      show PyData.tuple [_, _, _, .int (split s.last).2.d.v, _, _] = _
      rw [d0]
      rfl
    rw [e9]
  rintro _ rfl
  generalize (bt (split s.last).2 p).1 = f1 at *
  generalize (bt (split s.last).2 p).2 = m1 at *
  generalize (split s.last).2 = rs at *
  generalize (split s.last).1 = o at *
  obtain ⟨st, L⟩ := s
  have hst : StOk st := hs.st
  cases st with
  | nil =>
    rw [push_some (fun _ => rfl)] at h
    dsimp! [eq_empty (bs_shaped ([] : Stk q))]
    exact ⟨fun _ => h, fun z => absurd rfl z⟩
  | cons x st =>
    obtain ⟨b, t⟩ := x
    have bne : bsL ((b, t) :: st) ≠ [] := by rw [bs_cons]; simp
    have z1 := bs_len (st := (b, t) :: st)
    have z2 := ts_len (st := (b, t) :: st)
    have sl2 : ((b, t) :: st).length ≤ 1000000 := sl
    have sl3 : st.length + 1 ≤ 1000000 := sl
    have fl : (bL f1).length ≤ 7 := bL_len f1
    cases o with
    | some e =>
      rw [push_some (fun z => by cases z)] at h
      have e1 : stepD (⟨(f1, some e) :: (b, t) :: st, m1⟩ : Stp (El q)) = .tuple [.int (s0 ((b, t) :: st)), .tuple (bsL ((b, t) :: st) ++ [bD f1]), .tuple (dI (tsL ((b, t) :: st)) ++ [.int e.v]), mD m1] := by
        show PyData.tuple [.int (s0 ((f1, some e) :: (b, t) :: st)), .tuple (bsL ((f1, some e) :: (b, t) :: st)), .tuple (dI (tsL ((f1, some e) :: (b, t) :: st))), mD m1] = _
        rw [bs_cons (x := (f1, some e)), ts_cons, s0_cons]
        simp [dI, tI]
      rw [e1] at h
      have e0 := e.num.1
      rw [show tI (some e) = e.v from rfl]
      dsimp! [eq_empty (bs_shaped ((b, t) :: st))]
      refine ⟨fun z => absurd z bne, fun _ => ⟨fun _ => ?_, fun z => absurd e0 z⟩⟩
      exact ⟨by rw [z1]; omega, by rw [dI_length, z2]; omega, h⟩
    | none =>
      rw [show tI (none : Option (El q)) = -1 from rfl]
      obtain ⟨h1, h2, h3⟩ := hst
      rw [push_cons] at h
      have at4 : atI (bsL ((b, t) :: st)) (-1) = some (bD b) := by
        rw [bs_cons]
        exact at_last
      have ci : cut (bsL ((b, t) :: st)) none (some (-1)) = bsL st := by
        rw [bs_cons]
        exact cut_init
      dsimp! [eq_empty (bs_shaped ((b, t) :: st)), at4]
      refine ⟨fun z => absurd z bne, fun _ => ?_⟩
      refine lsum_spec (n := n + 1) H.n H.sum (bL_num b) (bL_num f1) (Nat.le_trans (bL_len b) (by omega)) (by omega) ?_
      rw [addL_bL]
      dsimp! [ne_empty (shaped_ints_tuple (l := bL (b.add f1)))]
      refine ⟨fun hz => ?_, fun hz => ?_⟩
      · have hz2 : b.add f1 = Bd.zero := bL_nil.mp (List.map_eq_nil_iff.mp hz)
        rw [if_pos hz2] at h
        cases st with
        | nil =>
          have ct : cut (dI (tsL [(b, t)])) none (some (-1)) = [] := rfl
          have cb : cut (bsL [(b, t)]) none (some (-1)) = [] := ci
          have l1 : (((bsL [(b, t)]).length : Nat) : Int) = 1 := rfl
          rw [s0_one]
          cases t with
          | none =>
            rw [show tI (none : Option (El q)) = -1 from rfl]
            refine ⟨fun _ => ⟨fun z => absurd z (by omega), fun _ => ?_⟩, fun z => absurd l1 z⟩
            dsimp! [ct, cb, l1]
            exact ⟨h, fun z => z.elim⟩
          | some e =>
            have e0 := e.num.1
            rw [show tI (some e) = e.v from rfl]
            refine ⟨fun _ => ⟨fun _ => ?_, fun z => absurd e0 z⟩, fun z => absurd l1 z⟩
            refine ll_then H.n H.then_ (tm e) m1 ?_
            dsimp! [ct, cb, l1]
            exact h
        | cons y st =>
          have l2 : ¬ (((bsL ((b, t) :: y :: st)).length : Nat) : Int) = 1 := by
            rw [z1]
            simp only [List.length_cons]
            omega
          have et : dI (tsL ((b, t) :: y :: st)) = dI (tsL (y :: st)) ++ [.int (tI t)] := by
            rw [ts_cons]
            simp [dI]
          have at5 : atI (dI (tsL ((b, t) :: y :: st))) (-1) = some (.int (tI t)) := by
            rw [et]
            exact at_last
          have cj : cut (dI (tsL ((b, t) :: y :: st))) none (some (-1)) = dI (tsL (y :: st)) := by
            rw [et]
            exact cut_init
          refine ⟨fun z => absurd z l2, fun _ => ?_⟩
          cases t with
          | none => cases h2 rfl
          | some e =>
            have e0 := e.num.1
            rw [show tI (some e) = e.v from rfl] at at5
            dsimp! [at5]
            refine ⟨fun _ => ?_, fun z => absurd e0 z⟩
            refine ll_then H.n H.then_ (tm e) m1 ?_
            dsimp! [ci, cj]
            refine ⟨fun z => absurd z l2, fun _ => ?_⟩
            rw [s0_cons]
            exact h
      · have hz2 : b.add f1 ≠ Bd.zero := fun z => hz (by rw [bL_nil.mpr z]; rfl)
        rw [if_neg hz2] at h
        dsimp! [ci]
        have e1 : stepD (⟨(b.add f1, t) :: st, m1⟩ : Stp (El q)) = .tuple [.int (s0 ((b, t) :: st)), .tuple (bsL st ++ [bD (b.add f1)]), .tuple (dI (tsL ((b, t) :: st))), mD m1] := by
          show PyData.tuple [.int (s0 ((b.add f1, t) :: st)), .tuple (bsL ((b.add f1, t) :: st)), .tuple (dI (tsL ((b.add f1, t) :: st))), mD m1] = _
          rw [bs_cons]
          cases st with
          | nil => rfl
          | cons y st => rw [ts_cons, ts_cons, s0_cons, s0_cons]
        rw [e1] at h
        exact ⟨by rw [bs_len]; omega, h⟩
theorem row_spec (H : LwS P) {s : Stp (El q)} (hs : s.Ok) (sl : s.st.length ≤ 100000) {n : Nat} {Q : RV → List Sl → Prop} (h : Q (.own (ofL (rowD (row s)))) [.val (stepD s)]) :
    CW (cfg P (n + 1)) "_law_row" [] [.val (stepD s)] Q := by
  refine CW_pos H.row rfl ?_
  show WB (cfg P n) f__law_row.body [some (.val (stepD s)), none, none, none, none, none, none, none] _
  unfold f__law_row
  have bl := bs_len (st := s.st)
  have tl := ts_len (st := s.st)
  have al := tsA_len (st := s.st)
  have fl : (fw s.st).length = s.st.length := by simp [fw]
  have rl := row_len s
  refine WB_cut (fun e => e = [some (.val (stepD s)), some (.val (.int (s0 s.st))), some (.val (.tuple (bsL s.st))), some (.val (.tuple (dI (tsL s.st)))), some (.val (mD s.last)), none, none, none]) ?_ ?_
  · dsimp! [stepD]
  rintro _ rfl
  have zl : (zipL (PyData.int (s0 s.st) :: dI (tsL s.st)) (bsL s.st)).length = s.st.length := by
    rw [zip_len2, List.length_cons, dI_length, bl, tl]
    omega
  dsimp! [dI_length, tl]
  refine ⟨by omega, ?_⟩
  refine FoW_inv (fun i e => ∃ x6 x7, e = [some (.val (stepD s)), some (.val (.int (s0 s.st))), some (.val (.tuple (bsL s.st))), some (.val (.tuple (dI (tsL s.st)))), some (.val (mD s.last)), some (.own (ofL (rowD (((fw s.st).take i).flatMap bpR)))), x6, x7]) ⟨_, _, rfl⟩ ?_ ?_
  · rintro i x e hx ⟨x6, x7, rfl⟩
    obtain ⟨a, b, ha, hb, rfl⟩ := zip_get2 _ _ _ _ hx
    unfold bsL at hb
    rw [List.getElem?_map] at hb
    obtain ⟨z, hz, rfl⟩ := Option.map_eq_some_iff.mp hb
    have ea : a = .int (tI z.2) := by
      have e1 : PyData.int (s0 s.st) :: dI (tsL s.st) = dI (tsA s.st) := by
        have i1 := (List.getElem?_eq_some_iff.mp hz).1
        unfold s0 tsL
        cases g : tsA s.st with
        | nil => rw [g] at al; simp at al; omega
        | cons c l => rfl
      rw [e1] at ha
      obtain ⟨c, rfl, hc⟩ := dI_some ha
      rw [tsA_get, hz] at hc
      exact congrArg PyData.int (Option.some.inj hc).symm
    subst ea
    have ln := bpR_len ((fw s.st).take i)
    rw [List.length_take] at ln
    have e2 : rowD (((fw s.st).take (i + 1)).flatMap bpR) = rowD (((fw s.st).take i).flatMap bpR) ++ rowD (turnR z.2) ++ [PyData.tuple [.str "bend", bD z.1]] := by
      rw [take_next hz, List.flatMap_append, rowD_app, List.append_assoc]
      simp [bpR, rowD, pcD]
    rw [e2, OW_set2]
    show WB (cfg P n) _ [some (.val (stepD s)), some (.val (.int (s0 s.st))), some (.val (.tuple (bsL s.st))), some (.val (.tuple (dI (tsL s.st)))), some (.val (mD s.last)), some (.own (ofL (rowD (((fw s.st).take i).flatMap bpR)))), some (.val (.int (tI z.2))), some (.val (bD z.1))] _
    obtain ⟨zb, zt⟩ := z
    cases zt with
    | none =>
      rw [show tI ((zb, (none : Option (El q))).2) = -1 from rfl, show rowD (turnR (zb, (none : Option (El q))).2) = [] from rfl, List.append_nil]
      subst_eqs
      exact ⟨by rw [rowD_len]; omega, _, _, rfl⟩
    | some e =>
      have e0 := e.num.1
      rw [show tI ((zb, some e).2) = e.v from rfl, show rowD (turnR (zb, some e).2) = [PyData.tuple [.str "straight", mD (tm e)]] from rfl]
      subst_eqs
      refine ⟨fun _ => ?_, fun z => absurd e0 z⟩
      rw [rowD_len, List.length_append, rowD_len]
      simp only [List.length_cons, List.length_nil]
      exact ⟨by omega, by omega, _, _, rfl⟩
  · rintro e ⟨x6, x7, rfl⟩
    rw [zl, ← fl, List.take_length, ← stR_fw]
    have ln := stR_len s.st
    have e2 : rowD (stR s.st) ++ [PyData.tuple [.str "straight", mD s.last]] = rowD (row s) := by
      unfold row
      rw [rowD_app]
      rfl
    subst_eqs
    rw [rowD_len, e2]
    exact ⟨by omega, h⟩
theorem made_spec (H : LwS P) {r : List (Pc (El q))} (hr : RowOk r) (rl : r.length ≤ 100000) {n : Nat} {Q : RV → List Sl → Prop} (h : Q (.val (stepD (mk r))) [.val (.int q), .val (.list (rowD r))]) :
    CW (cfg P (n + 5)) "_law_made" [] [.val (.int q), .val (.list (rowD r))] Q := by
  refine CW_pos H.made rfl ?_
  show WB (cfg P (n + 4)) f__law_made.body [some (.val (.int q)), some (.val (.list (rowD r))), none, none] _
  unfold f__law_made
  refine WB_cut (fun e => e = [some (.val (.int q)), some (.val (.list (rowD r))), some (.val (stepD (ST.nil : Stp (El q)))), none]) ?_ ?_
  · rw [step_nil]
    dsimp! [cNOTHING]
  rintro _ rfl
  subst_eqs
  refine FoW_inv (fun i e => ∃ x3, e = [some (.val (.int q)), some (.val (.list (rowD r))), some (.val (stepD (mk (r.take i)))), x3]) ⟨_, rfl⟩ ?_ ?_
  · rintro i x e hx ⟨x3, rfl⟩
    obtain ⟨p, hp, rfl⟩ := rowD_get hx
    have ok : (mk (r.take i)).Ok := mk_ok fun y hy => hr y (List.mem_of_mem_take hy)
    have len := acts_len (r.take i) (ST.nil : Stp (El q))
    rw [List.length_take, show (ST.nil : Stp (El q)).st.length = 0 from rfl] at len
    have len2 : (mk (r.take i)).st.length ≤ 100000 := by
      unfold mk
      omega
    have e1 : mk (r.take (i + 1)) = act (mk (r.take i)) p := by
      unfold mk
      rw [take_next hp, acts_app]
      rfl
    have pok : p.ok := hr p (List.mem_of_getElem? hp)
    rw [e1]
    cases p with
    | str m =>
      subst_eqs
      refine put_str_spec H _ m ?_
      subst_eqs
      exact ⟨_, rfl⟩
    | bnd b =>
      subst_eqs
      refine put_bnd_spec H ok (by omega) pok ?_
      subst_eqs
      exact ⟨_, rfl⟩
  · rintro e ⟨x3, rfl⟩
    rw [rowD_len, List.take_length]
    subst_eqs
    exact h
end
/-! the law's undone rows (own work) -/
section
variable {P : Prg} {q : Int} [hq : FldI q]
open ST
theorem cut2a {a b c d : D} : cut [a, b, c, d] none (some 2) = [a, b] := rfl
theorem cut2b {a b c d : D} : cut [a, b, c, d] (some 2) none = [c, d] := rfl
theorem cut1a {a b : D} : cut [a, b] none (some 1) = [a] := rfl
theorem cut1b {a b : D} : cut [a, b] (some 1) none = [b] := rfl
def lostF (q c f : Int) : D → D
  | .list [.int x, .int y] => .int (oppF q (plusF q (timesF q x c) (timesF q y f)))
  | d => d
theorem inv_eq (m : Mp (El q)) : mD m.inv = .tuple [.int (m.det⁻¹ * m.e).v, .int (m.det⁻¹ * -m.b).v, .int (-(m.det⁻¹ * m.e * m.c + m.det⁻¹ * -m.b * m.f)).v, .int (m.det⁻¹ * -m.d).v, .int (m.det⁻¹ * m.a).v, .int (-(m.det⁻¹ * -m.d * m.c + m.det⁻¹ * m.a * m.f)).v] := by
  have e : m.inv = ⟨m.det⁻¹ * m.e, m.det⁻¹ * -m.b, -(m.det⁻¹ * m.e * m.c + m.det⁻¹ * -m.b * m.f), m.det⁻¹ * -m.d, m.det⁻¹ * m.a, -(m.det⁻¹ * -m.d * m.c + m.det⁻¹ * m.a * m.f)⟩ := by
    simp only [Mp.inv, Mp.mk.injEq]
    generalize m.det⁻¹ = k
    refine ⟨?_, ?_, ?_, ?_, ?_, ?_⟩ <;> grind
  rw [e]
  rfl
theorem lback_spec (H : LwS P) {r : List (Pc (El q))} (hr : RowOk r) (rl : r.length ≤ 100000) {n : Nat} {Q : RV → List Sl → Prop} (h : Q (.own (ofL (rowD (bk r)))) [.val (.int q), .val (.list (rowD r))]) :
    CW (cfg P (n + 4)) "_law_back" [] [.val (.int q), .val (.list (rowD r))] Q := by
  refine CW_pos H.back rfl ?_
  show WB (cfg P (n + 3)) f__law_back.body [some (.val (.int q)), some (.val (.list (rowD r))), none, none, none, none, none, none, none, none, none, none, none, none, none, none] _
  unfold f__law_back
  subst_eqs
  refine FoW_inv (fun i e => ∃ x3 x4 x5 x6 x7 x8 x9 x10 x11 x12 x13, e = [some (.val (.int q)), some (.val (.list (rowD r))), some (.own (ofL (rowD ((r.reverse.take i).map Pc.inv)))), x3, x4, x5, x6, x7, x8, x9, x10, x11, x12, x13, none, none]) ⟨_, _, _, _, _, _, _, _, _, _, _, rfl⟩ ?_ ?_
  · rintro i x e hx ⟨x3, x4, x5, x6, x7, x8, x9, x10, x11, x12, x13, rfl⟩
    rw [show (rowD r).reverse = rowD r.reverse from by simp [rowD]] at hx
    obtain ⟨p, hp, rfl⟩ := rowD_get hx
    have ok : p.ok := hr p (List.mem_reverse.mp (List.mem_of_getElem? hp))
    have e1 : rowD ((r.reverse.take (i + 1)).map Pc.inv) = rowD ((r.reverse.take i).map Pc.inv) ++ [pcD p.inv] := by
      rw [take_next hp, List.map_append, rowD_app]
      rfl
    have ln : (rowD ((r.reverse.take i).map Pc.inv)).length ≤ 100000 := by
      rw [rowD_len, List.length_map, List.length_take, List.length_reverse]
      omega
    rw [e1]
    cases p with
    | bnd b =>
      rw [show pcD (.bnd b) = PyData.tuple [.str "bend", bD b] from rfl, OW_set2]
      show WB (cfg P (n + 3)) _ [some (.val (.int q)), some (.val (.list (rowD r))), some (.own (ofL (rowD ((r.reverse.take i).map Pc.inv)))), some (.val (.str "bend")), some (.val (.tuple (dI (bL b)))), x5, x6, x7, x8, x9, x10, x11, x12, x13, none, none] _
      rw [show pcD (Pc.bnd b).inv = PyData.tuple [.str "bend", .tuple (dI ((bL b).map (oppF q)))] from by rw [neg_bL]; rfl]
      dsimp! [eqS_bb]
      refine ⟨rfl, ?_⟩
      refine LcW_map (mapT (oppF q)) rfl (fun x hx => ?_) fun e2 he => ?_
      · obtain ⟨x, rfl, hx2⟩ := dI_mem hx
        subst_eqs
        refine lless_spec (n := n + 2) H.n ?_
        subst_eqs
        first | rfl | exact ⟨rfl, rfl⟩
      · have hm := mapT_dI (f := oppF q) (l := bL b)
        have hb := bL_len b
        dsimp! [he, hm, dI_length, List.length_map]
        exact ⟨by omega, by omega, _, _, _, _, _, _, _, _, _, _, _, rfl⟩
    | str m =>
      rw [show pcD (.str m) = PyData.tuple [.str "straight", mD m] from rfl, OW_set2]
      show WB (cfg P (n + 3)) _ [some (.val (.int q)), some (.val (.list (rowD r))), some (.own (ofL (rowD ((r.reverse.take i).map Pc.inv)))), some (.val (.str "straight")), some (.val (.tuple [.int m.a.v, .int m.b.v, .int m.c.v, .int m.d.v, .int m.e.v, .int m.f.v])), x5, x6, x7, x8, x9, x10, x11, x12, x13, none, none] _
      rw [show pcD (Pc.str m).inv = PyData.tuple [.str "straight", mD m.inv] from rfl, inv_eq]
      have hm : m.det ≠ 0 := ok
      dsimp! [eqS_sb]
      refine ll_cross H.n m.a m.b m.d m.e ?_
      subst_eqs
      refine ll_under (n := n + 1) H.n m.det hm ?_
      subst_eqs
      refine ll_less (n := n + 2) H.n m.b ?_
      subst_eqs
      refine ll_less (n := n + 2) H.n m.d ?_
      subst_eqs
      refine ⟨rfl, ?_⟩
      refine LcW_map (mapT (timesF q (m.det⁻¹).v)) rfl (fun x hx => ?_) fun e2 he => ?_
      · have hx2 : ∃ z : El q, x = .int z.v := by
          simp only [List.mem_cons, List.not_mem_nil, or_false] at hx
          rcases hx with rfl | rfl | rfl | rfl
          · exact ⟨m.e, rfl⟩
          · exact ⟨-m.b, rfl⟩
          · exact ⟨-m.d, rfl⟩
          · exact ⟨m.a, rfl⟩
        obtain ⟨z, rfl⟩ := hx2
        subst_eqs
        refine ll_by (n := n + 1) H.n m.det⁻¹ z ?_
        subst_eqs
        first | rfl | exact ⟨rfl, rfl⟩
      · have ml : List.map (mapT (timesF q (m.det⁻¹).v)) [PyData.int m.e.v, .int (-m.b).v, .int (-m.d).v, .int m.a.v] = [PyData.int (m.det⁻¹ * m.e).v, .int (m.det⁻¹ * -m.b).v, .int (m.det⁻¹ * -m.d).v, .int (m.det⁻¹ * m.a).v] := rfl
        dsimp! [he, ml, cut2a, cut2b]
        refine ⟨rfl, ?_⟩
        refine LcW_map (lostF q m.c.v m.f.v) rfl (fun x hx => ?_) fun e2 he => ?_
        · have hx2 : ∃ z w : El q, x = .list [.int z.v, .int w.v] := by
            simp only [List.mem_cons, List.not_mem_nil, or_false] at hx
            rcases hx with rfl | rfl
            · exact ⟨_, _, rfl⟩
            · exact ⟨_, _, rfl⟩
          obtain ⟨z, w, rfl⟩ := hx2
          subst_eqs
          refine ll_by (n := n + 1) H.n z m.c ?_
          subst_eqs
          refine ll_by (n := n + 1) H.n w m.f ?_
          subst_eqs
          refine ll_plus (n := n + 2) H.n (z * m.c) (w * m.f) ?_
          subst_eqs
          refine ll_less (n := n + 2) H.n (z * m.c + w * m.f) ?_
          subst_eqs
          first | rfl | exact ⟨rfl, rfl⟩
        · have ml2 : List.map (lostF q m.c.v m.f.v) [PyData.list [.int (m.det⁻¹ * m.e).v, .int (m.det⁻¹ * -m.b).v], .list [.int (m.det⁻¹ * -m.d).v, .int (m.det⁻¹ * m.a).v]] = [PyData.int (-(m.det⁻¹ * m.e * m.c + m.det⁻¹ * -m.b * m.f)).v, .int (-(m.det⁻¹ * -m.d * m.c + m.det⁻¹ * m.a * m.f)).v] := rfl
          dsimp! [he, ml2, cut2a, cut2b, cut1a, cut1b]
          exact ⟨by omega, _, _, _, _, _, _, _, _, _, _, _, rfl⟩
  · rintro e ⟨x3, x4, x5, x6, x7, x8, x9, x10, x11, x12, x13, rfl⟩
    rw [show (rowD r).reverse.length = r.reverse.length from by rw [List.length_reverse, rowD_len, List.length_reverse], List.take_length]
    subst_eqs
    exact h
end
/-! what the law draws: maps, bends, steps (own work) -/
def f__law_field : Fn := ⟨["_law_deck_here"], 1, (.cons (.ifs (.cmp .eq (.call "_law_draw" (.cons (.lend 0) (.cons (.con (.int 5)) .nil)) []) (.con (.int 0))) (.cons (.ret (.call "_law_pick" (.cons (.lend 0) (.cons (.tup (.cons (.con (.int 2)) (.cons (.con (.int 3)) (.cons (.con (.int 4)) (.cons (.con (.int 5)) (.cons (.con (.int 7)) (.cons (.con (.int 8)) (.cons (.con (.int 9)) (.cons (.con (.int 11)) (.cons (.con (.int 13)) (.cons (.con (.int 16)) .nil))))))))))) .nil)) [])) .nil) .nil) (.cons (.ret (.call "_law_pick" (.cons (.lend 0) (.cons (.tup (.cons (.con (.int 2)) (.cons (.con (.int 3)) (.cons (.con (.int 4)) (.cons (.con (.int 5)) (.cons (.con (.int 3)) (.cons (.con (.int 2)) .nil))))))) .nil)) [])) .nil))⟩
def f__law_map : Fn := ⟨["_law_deck_here", "_law_q"], 12, (.cons (.par [(2, false), (3, false)] (.cons (.call "_law_draw" (.cons (.lend 0) (.cons (.con (.int 9)) .nil)) []) (.cons (.bin .add (.con (.int 1)) (.call "_law_draw" (.cons (.lend 0) (.cons (.bin .sub (.bin .mul (.var 1) (.var 1)) (.con (.int 1))) .nil)) [])) .nil))) (.cons (.par [(4, false), (5, false), (6, false), (7, false)] (.cons (.bin .fdiv (.var 3) (.var 1)) (.cons (.bin .mod (.blt .int (.cons (.var 3) .nil)) (.var 1)) (.cons (.call "_law_draw" (.cons (.lend 0) (.cons (.var 1) .nil)) []) (.cons (.bin .add (.con (.int 1)) (.call "_law_draw" (.cons (.lend 0) (.cons (.bin .sub (.var 1) (.con (.int 1))) .nil)) [])) .nil))))) (.cons (.par [(8, false), (9, false)] (.cons (.call "_law_draw" (.cons (.lend 0) (.cons (.var 1) .nil)) []) (.cons (.call "_law_draw" (.cons (.lend 0) (.cons (.var 1) .nil)) []) .nil))) (.cons (.ifs (.cmp .eq (.var 2) (.con (.int 0))) (.cons (.ret (.tup (.cons (.con (.int 1)) (.cons (.con (.int 0)) (.cons (.con (.int 0)) (.cons (.con (.int 0)) (.cons (.con (.int 1)) (.cons (.con (.int 0)) .nil)))))))) .nil) .nil) (.cons (.ifs (.cmp .lt (.var 2) (.con (.int 4))) (.cons (.ret (.tup (.cons (.bin .add (.con (.int 1)) (.bin .mod (.blt .int (.cons (.var 3) .nil)) (.bin .sub (.var 1) (.con (.int 1))))) (.cons (.var 6) (.cons (.var 8) (.cons (.con (.int 0)) (.cons (.var 7) (.cons (.var 9) .nil)))))))) .nil) .nil) (.cons (.par [(10, false), (11, false)] (.cons (.call "_law_by" (.cons (.var 1) (.cons (.var 6) (.cons (.var 4) .nil))) []) (.cons (.call "_law_by" (.cons (.var 1) (.cons (.var 6) (.cons (.var 5) .nil))) []) .nil))) (.cons (.ifs (.cmp .eq (.var 4) (.con (.int 0))) (.cons (.ret (.tup (.cons (.var 4) (.cons (.var 5) (.cons (.var 8) (.cons (.call "_law_plus" (.cons (.var 1) (.cons (.var 10) (.cons (.var 7) .nil))) []) (.cons (.var 11) (.cons (.var 9) .nil)))))))) .nil) .nil) (.cons (.ret (.tup (.cons (.var 4) (.cons (.var 5) (.cons (.var 8) (.cons (.var 10) (.cons (.call "_law_plus" (.cons (.var 1) (.cons (.var 11) (.cons (.var 7) .nil))) []) (.cons (.var 9) .nil)))))))) .nil))))))))⟩
def f__law_both : Fn := ⟨["_law_deck_here", "_law_q"], 8, (.cons (.asg (.nm 2) (.call "_law_draw" (.cons (.lend 0) (.cons (.con (.int 4)) .nil)) [])) (.cons (.par [(3, false), (4, false)] (.cons (.bin .add (.con (.int 1)) (.call "_law_draw" (.cons (.lend 0) (.cons (.bin .sub (.var 1) (.con (.int 1))) .nil)) [])) (.cons (.bin .add (.con (.int 1)) (.call "_law_draw" (.cons (.lend 0) (.cons (.bin .sub (.var 1) (.con (.int 1))) .nil)) [])) .nil))) (.cons (.par [(5, false), (6, false), (7, false)] (.cons (.call "_law_draw" (.cons (.lend 0) (.cons (.var 1) .nil)) []) (.cons (.call "_law_draw" (.cons (.lend 0) (.cons (.var 1) .nil)) []) (.cons (.call "_law_draw" (.cons (.lend 0) (.cons (.var 1) .nil)) []) .nil)))) (.cons (.ret (.ite (.cmp .gt (.var 2) (.con (.int 0))) (.tup (.cons (.var 3) (.cons (.var 5) (.cons (.var 6) (.cons (.con (.int 0)) (.cons (.var 4) (.cons (.var 7) .nil))))))) (.tup (.cons (.con (.int 1)) (.cons (.con (.int 0)) (.cons (.var 6) (.cons (.con (.int 0)) (.cons (.con (.int 1)) (.cons (.var 7) .nil))))))))) .nil))))⟩
def f__law_bend : Fn := ⟨["_law_deck_here", "_law_q"], 8, (.cons (.par [(2, false), (3, false)] (.cons (.call "_law_pick" (.cons (.lend 0) (.cons (.tup (.cons (.con (.int 1)) (.cons (.con (.int 2)) (.cons (.con (.int 1)) (.cons (.con (.int 3)) (.cons (.con (.int 1)) (.cons (.con (.int 4)) (.cons (.con (.int 2)) (.cons (.con (.int 5)) .nil))))))))) .nil)) []) (.cons (.call "_law_draw" (.cons (.lend 0) (.cons (.con (.int 3)) .nil)) []) .nil))) (.cons (.asg (.nm 4) (.lc (.nm 5) (.blt .range (.cons (.bin .sub (.var 2) (.con (.int 1))) .nil)) (.con (.bl true)) (.call "_law_draw" (.cons (.lend 0) (.cons (.var 1) .nil)) []) [5])) (.cons (.ifs (.cmp .eq (.var 3) (.con (.int 0))) (.cons (.asg (.nm 4) (.lc (.tup (.cons (.nm 6) (.cons (.nm 7) .nil))) (.blt .enumerate (.cons (.var 4) .nil)) (.con (.bl true)) (.ite (.cmp .eq (.var 6) (.con (.int 0))) (.var 7) (.con (.int 0))) [6, 7])) .nil) .nil) (.cons (.ret (.bin .add (.bin .add (.tup (.cons (.con (.int 0)) (.cons (.con (.int 0)) .nil))) (.blt .tuple (.cons (.var 4) .nil))) (.tup (.cons (.bin .add (.con (.int 1)) (.call "_law_draw" (.cons (.lend 0) (.cons (.bin .sub (.var 1) (.con (.int 1))) .nil)) [])) .nil)))) .nil))))⟩
def f__law_step : Fn := ⟨["_law_deck_here", "_law_q", "_law_many"], 8, (.cons (.asg (.nm 3) (.call "_law_draw" (.cons (.lend 0) (.cons (.con (.int 4)) .nil)) [])) (.cons (.asg (.nm 4) (.ite (.cmp .gt (.var 2) (.con (.int 0))) (.bin .sub (.call "_law_draw" (.cons (.lend 0) (.cons (.bin .add (.var 1) (.con (.int 1))) .nil)) []) (.con (.int 1))) (.neg (.con (.int 1))))) (.cons (.asg (.nm 5) (.lc (.nm 7) (.blt .range (.cons (.var 2) .nil)) (.con (.bl true)) (.call "_law_bend" (.cons (.lend 0) (.cons (.var 1) .nil)) []) [7])) (.cons (.asg (.nm 6) (.lc (.nm 7) (.blt .range (.cons (.bin .sub (.var 2) (.con (.int 1))) .nil)) (.con (.bl true)) (.call "_law_draw" (.cons (.lend 0) (.cons (.var 1) .nil)) []) [7])) (.cons (.ifs (.cmp .eq (.var 3) (.con (.int 0))) (.cons (.par [(5, false), (6, false)] (.cons (.bin .mul (.slc (.var 5) .non (.som (.con (.int 1)))) (.var 2)) (.cons (.bin .mul (.slc (.var 6) .non (.som (.con (.int 1)))) (.bin .sub (.var 2) (.con (.int 1)))) .nil))) .nil) .nil) (.cons (.ret (.tup (.cons (.var 4) (.cons (.blt .tuple (.cons (.var 5) .nil)) (.cons (.blt .tuple (.cons (.var 6) .nil)) (.cons (.call "_law_map" (.cons (.lend 0) (.cons (.var 1) .nil)) []) .nil)))))) .nil))))))⟩
structure LwG (P : Prg) : Prop where
  s : LwS P
  deck : P.Has "_law_deck" f__law_deck
  draw : P.Has "_law_draw" f__law_draw
  pick : P.Has "_law_pick" f__law_pick
  field : P.Has "_law_field" f__law_field
  map : P.Has "_law_map" f__law_map
  both : P.Has "_law_both" f__law_both
  bend : P.Has "_law_bend" f__law_bend
  step : P.Has "_law_step" f__law_step
theorem field_spec {P : Prg} (H : LwG P) {o : O} (ho : Deck o) {n : Nat} {Q : RV → List Sl → Prop} (h : ∀ o' q, Deck o' → Fld q → Q (.val (.int q)) [.own o']) : CW (cfg P (n + 3)) "_law_field" [] [.own o] Q := by
  refine CW_pos H.field rfl ?_
  show WB (cfg P (n + 2)) f__law_field.body [some (.own o)] _
  unfold f__law_field
  subst_eqs
  refine draw_spec (n := n + 1) (m := 5) H.draw ho (by omega) (by omega) fun o1 r ho1 hr => ?_
  subst_eqs
  refine ⟨fun _ => ?_, fun _ => ?_⟩
  · refine pickT_spec (l := [PyData.int 2, .int 3, .int 4, .int 5, .int 7, .int 8, .int 9, .int 11, .int 13, .int 16]) H.draw H.pick ho1 (by simp) (by simp) fun o' x ho' hx => ?_
    subst_eqs
    simp only [List.mem_cons, List.not_mem_nil, or_false] at hx
    rcases hx with rfl | rfl | rfl | rfl | rfl | rfl | rfl | rfl | rfl | rfl <;> exact h _ _ ho' (by decide)
  · refine pickT_spec (l := [PyData.int 2, .int 3, .int 4, .int 5, .int 3, .int 2]) H.draw H.pick ho1 (by simp) (by simp) fun o' x ho' hx => ?_
    subst_eqs
    simp only [List.mem_cons, List.not_mem_nil, or_false] at hx
    rcases hx with rfl | rfl | rfl | rfl | rfl | rfl <;> exact h _ _ ho' (by decide)
section
variable {P : Prg} {q : Int} [hq : FldI q]
open ST
theorem draw_el (H : LwG P) {o : O} (ho : Deck o) {n : Nat} {Q : RV → List Sl → Prop} (h : ∀ o' (a : El q), Deck o' → Q (.val (.int a.v)) [.own o', .val (.int q)]) : CW (cfg P (n + 1)) "_law_draw" [] [.own o, .val (.int q)] Q := by
  have q2 := hq.out.lo
  have q3 := hq.out.hi
  exact draw_spec (m := q) H.draw ho (by omega) (by omega) fun o' r ho' hr => h o' ⟨r, hr⟩ ho'
theorem draw_ne (H : LwG P) {o : O} (ho : Deck o) {n : Nat} {Q : RV → List Sl → Prop} (h : ∀ o' r (a : El q), Deck o' → a ≠ 0 → 1 + r = a.v → Q (.val (.int r)) [.own o', .val (.int (q - 1))]) : CW (cfg P (n + 1)) "_law_draw" [] [.own o, .val (.int (q - 1))] Q := by
  have q2 := hq.out.lo
  have q3 := hq.out.hi
  refine draw_spec (m := q - 1) H.draw ho (by omega) (by omega) fun o' r ho' hr => ?_
  obtain ⟨r0, r1⟩ := hr
  refine h o' r ⟨1 + r, ⟨by omega, by omega⟩⟩ ho' (fun z => ?_) rfl
  have : 1 + r = 0 := congrArg El.v z
  omega
theorem det_lower {a b c e f : El q} (ha : a ≠ 0) (he : e ≠ 0) : (⟨a, b, c, 0, e, f⟩ : Mp (El q)).det ≠ 0 := by
  have := mul_ne ha he
  simp only [Mp.det]
  intro z
  exact this (by grind)
theorem map_spec (H : LwG P) {o : O} (ho : Deck o) {n : Nat} {Q : RV → List Sl → Prop} (h : ∀ o' (m : Mp (El q)), Deck o' → m.det ≠ 0 → Q (.val (mD m)) [.own o', .val (.int q)]) : CW (cfg P (n + 3)) "_law_map" [] [.own o, .val (.int q)] Q := by
  refine CW_pos H.map rfl ?_
  show WB (cfg P (n + 2)) f__law_map.body [some (.own o), some (.val (.int q)), none, none, none, none, none, none, none, none, none, none] _
  unfold f__law_map
  have q2 := hq.out.lo
  have q3 := hq.out.hi
  have qq : q * q ≤ 16 * 16 := Int.mul_le_mul q3 q3 (by omega) (by omega)
  have q4 : 2 * 2 ≤ q * q := Int.mul_le_mul q2 q2 (by omega) (by omega)
  subst_eqs
  refine draw_spec (n := n + 1) (m := 9) H.draw ho (by omega) (by omega) fun o w ho hw => ?_
  subst_eqs
  refine ⟨by omega, ?_⟩
  refine draw_spec (n := n + 1) (m := q * q - 1) H.draw ho (by omega) (by omega) fun o r ho hr => ?_
  obtain ⟨r0, r1⟩ := hr
  have na : Num q ((1 + r) / q) := ⟨Int.ediv_nonneg (by omega) (by omega), Int.ediv_lt_of_lt_mul (by omega) (by omega)⟩
  have nb : Num q ((1 + r) % q) := ⟨mod_lo (by omega), mod_hi (by omega)⟩
  have nz : (1 + r) / q = 0 → (1 + r) % q ≠ 0 := fun z1 z2 => by
    have := Int.mul_ediv_add_emod (1 + r) q
    rw [z1, z2] at this
    omega
  have n1 : Num q (1 + (1 + r) % (q - 1)) := ⟨by have := mod_lo (a := 1 + r) (b := q - 1) (by omega); omega, by have := mod_hi (a := 1 + r) (b := q - 1) (by omega); omega⟩
  obtain ⟨A, eA⟩ : ∃ a : El q, (1 + r) / q = a.v := ⟨⟨_, na⟩, rfl⟩
  obtain ⟨B, eB⟩ : ∃ a : El q, (1 + r) % q = a.v := ⟨⟨_, nb⟩, rfl⟩
  obtain ⟨a1, e1⟩ : ∃ a : El q, 1 + (1 + r) % (q - 1) = a.v := ⟨⟨_, n1⟩, rfl⟩
  rw [eA, eB] at nz
  have ha0 : a1 ≠ 0 := fun z => by
    have z2 : a1.v = 0 := congrArg El.v z
    rw [← e1] at z2
    have := mod_lo (a := 1 + r) (b := q - 1) (by omega)
    omega
  dsimp! [eA, eB]
  refine ⟨by omega, by omega, ?_⟩
  refine draw_el H ho fun o k ho => ?_
  dsimp! [eA, eB]
  refine draw_ne H ho fun o r2 u ho hu eu => ?_
  dsimp! [eA, eB, eu]
  refine draw_el H ho fun o c ho => ?_
  dsimp! [eA, eB, eu]
  refine draw_el H ho fun o f ho => ?_
  dsimp! [eA, eB, eu, e1]
  refine ⟨fun _ => ?_, fun _ => ⟨fun _ => ⟨by omega, ?_⟩, fun _ => ?_⟩⟩
  · exact h o Mp.one ho (by rw [det_one]; exact one_ne)
  · exact h o ⟨a1, k, c, 0, u, f⟩ ho (det_lower ha0 hu)
  · refine ll_by H.s.n k A ?_
    dsimp! [eA, eB]
    refine ll_by H.s.n k B ?_
    subst_eqs
    refine ⟨fun z => ?_, fun z => ?_⟩
    · have hb : B ≠ 0 := fun y => nz z (congrArg El.v y)
      have hA : A = 0 := El.ext z
      have dt : (⟨A, B, c, k * A + u, k * B, f⟩ : Mp (El q)).det ≠ 0 := by
        simp only [Mp.det]
        rw [hA]
        have := mul_ne hb hu
        intro y
        exact this (by grind)
      refine ll_plus (n := n + 1) H.s.n (k * A) u ?_
      subst_eqs
      exact h o ⟨A, B, c, k * A + u, k * B, f⟩ ho dt
    · have hA : A ≠ 0 := fun y => z (congrArg El.v y)
      have dt : (⟨A, B, c, k * A, k * B + u, f⟩ : Mp (El q)).det ≠ 0 := by
        simp only [Mp.det]
        have := mul_ne hA hu
        intro y
        exact this (by grind)
      refine ll_plus (n := n + 1) H.s.n (k * B) u ?_
      subst_eqs
      exact h o ⟨A, B, c, k * A, k * B + u, f⟩ ho dt
theorem both_spec (H : LwG P) {o : O} (ho : Deck o) {n : Nat} {Q : RV → List Sl → Prop} (h : ∀ o' (m : Mp (El q)), Deck o' → Low m → Q (.val (mD m)) [.own o', .val (.int q)]) : CW (cfg P (n + 2)) "_law_both" [] [.own o, .val (.int q)] Q := by
  refine CW_pos H.both rfl ?_
  show WB (cfg P (n + 1)) f__law_both.body [some (.own o), some (.val (.int q)), none, none, none, none, none, none] _
  unfold f__law_both
  subst_eqs
  refine draw_spec (m := 4) H.draw ho (by omega) (by omega) fun o w ho hw => ?_
  subst_eqs
  refine draw_ne H ho fun o r1 a ho ha ea => ?_
  dsimp! [ea]
  refine draw_ne H ho fun o r2 e ho he ee => ?_
  dsimp! [ea, ee]
  refine draw_el H ho fun o b ho => ?_
  dsimp! [ea, ee]
  refine draw_el H ho fun o c ho => ?_
  dsimp! [ea, ee]
  refine draw_el H ho fun o f ho => ?_
  dsimp! [ea, ee]
  exact ⟨fun _ => h o ⟨a, b, c, 0, e, f⟩ ho ⟨rfl, ha, he⟩, fun _ => h o ⟨1, 0, c, 0, 1, f⟩ ho ⟨rfl, one_ne, one_ne⟩⟩
theorem bend_of {w : List Int} {u : El q} (hw : NumL q w) (wl : w.length ≤ 4) (hu : u ≠ 0) : ∃ p : Bd (El q), p ≠ Bd.zero ∧ bD p = .tuple (dI (0 :: 0 :: (w ++ [u.v]))) := by
  have nn : NumL q (w ++ [u.v]) := fun x hx => by
    rcases List.mem_append.mp hx with hx | hx
    · exact hw x hx
    · rw [List.mem_singleton.mp hx]
      exact u.num
  have g : ∀ i, ∃ a : El q, a.v = cf (w ++ [u.v]) i := fun i => ⟨⟨_, nn.cf hq.out i⟩, rfl⟩
  obtain ⟨a, ea⟩ := g 0
  obtain ⟨b, eb⟩ := g 1
  obtain ⟨c, ec⟩ := g 2
  obtain ⟨d, ed⟩ := g 3
  obtain ⟨e, ee⟩ := g 4
  have key : 0 :: 0 :: (w ++ [u.v]) = bL ⟨a, b, c, d, e⟩ := by
    refine bL_ext (.inr ⟨0 :: 0 :: w, u.v, by simp, El.ne_v hu⟩) fun k => ?_
    match k with
    | 0 => rfl
    | 1 => rfl
    | 2 => exact ea.symm
    | 3 => exact eb.symm
    | 4 => exact ec.symm
    | 5 => exact ed.symm
    | 6 => exact ee.symm
    | k + 7 =>
      show cf (w ++ [u.v]) (k + 5) = 0
      exact cf_ge (by simp; omega)
  refine ⟨⟨a, b, c, d, e⟩, fun z => ?_, by rw [key]; rfl⟩
  rw [bL_nil.mpr z] at key
  cases key
def firstD : D → D
  | .tuple [.int i, .int x] => if i = 0 then .int x else .int 0
  | x => x
theorem bend_spec (H : LwG P) {o : O} (ho : Deck o) {n : Nat} {Q : RV → List Sl → Prop} (h : ∀ o' (p : Bd (El q)), Deck o' → p ≠ Bd.zero → Q (.val (bD p)) [.own o', .val (.int q)]) : CW (cfg P (n + 3)) "_law_bend" [] [.own o, .val (.int q)] Q := by
  refine CW_pos H.bend rfl ?_
  show WB (cfg P (n + 2)) f__law_bend.body [some (.own o), some (.val (.int q)), none, none, none, none, none, none] _
  unfold f__law_bend
  refine WB_cut (fun e => ∃ o z w, Deck o ∧ 1 ≤ z ∧ z ≤ 5 ∧ e = [some (.own o), some (.val (.int q)), some (.val (.int z)), some (.val (.int w)), none, none, none, none]) ?_ ?_
  · subst_eqs
    refine pickT_spec (l := [PyData.int 1, .int 2, .int 1, .int 3, .int 1, .int 4, .int 2, .int 5]) H.draw H.pick ho (by simp) (by simp) fun o x ho hx => ?_
    have hx2 : ∃ z : Int, 1 ≤ z ∧ z ≤ 5 ∧ x = .int z := by
      simp only [List.mem_cons, List.not_mem_nil, or_false] at hx
      rcases hx with rfl | rfl | rfl | rfl | rfl | rfl | rfl | rfl <;> exact ⟨_, by decide, by decide, rfl⟩
    obtain ⟨z, z0, z1, rfl⟩ := hx2
    subst_eqs
    refine draw_spec (n := n + 1) (m := 3) H.draw ho (by omega) (by omega) fun o w ho hw => ?_
    subst_eqs
    exact ⟨_, _, _, ho, z0, z1, rfl⟩
  rintro _ ⟨o, z, w, ho, z0, z1, rfl⟩
  refine WB_cut (fun e => ∃ o l, Deck o ∧ NumL q l ∧ l.length ≤ 4 ∧ e = [some (.own o), some (.val (.int q)), some (.val (.int z)), some (.val (.int w)), some (.val (.list (dI l))), none, none, none]) ?_ ?_
  · dsimp! [show rngOk 0 (z - 1) = true from rngOk_iff.mpr (by omega)]
    refine ⟨rfl, ?_⟩
    refine LcW_inv (fun j ds e => ∃ o l x5, ds = dI l ∧ l.length = j ∧ NumL q l ∧ Deck o ∧ e = [some (.own o), some (.val (.int q)), some (.val (.int z)), some (.val (.int w)), none, x5, none, none]) ⟨o, [], none, rfl, rfl, fun x hx => (by cases hx), ho, rfl⟩ ?_ ?_
    · rintro j x ds e hx ⟨o, l, x5, rfl, hl, hn, ho, rfl⟩
      obtain ⟨hj, rfl⟩ := tabI_get.mp hx
      subst_eqs
      refine draw_el (n := n + 1) H ho fun o a ho => ?_
      subst_eqs
      refine ⟨o, l ++ [a.v], _, by simp [dI], by simp [hl], fun y hy => ?_, ho, rfl⟩
      rcases List.mem_append.mp hy with hy | hy
      · exact hn y hy
      · rw [List.mem_singleton.mp hy]; exact a.num
    · rintro ds e ⟨o, l, x5, rfl, hl, hn, ho, rfl⟩
      rw [tabI_len] at hl
      dsimp! [backE, dI_length]
      exact ⟨by omega, o, l, ho, hn, by omega, rfl⟩
  rintro _ ⟨o, l, ho, hl, ll, rfl⟩
  refine WB_cut (fun e => ∃ o l, Deck o ∧ NumL q l ∧ l.length ≤ 4 ∧ e = [some (.own o), some (.val (.int q)), some (.val (.int z)), some (.val (.int w)), some (.val (.list (dI l))), none, none, none]) ?_ ?_
  · subst_eqs
    refine ⟨fun _ => ⟨rfl, ?_⟩, fun _ => ⟨o, l, ho, hl, ll, rfl⟩⟩
    refine LcW_map firstD rfl (fun x hx => ?_) fun e2 he => ?_
    · obtain ⟨i, hi, ei⟩ := List.mem_iff_getElem.mp hx
      have hx3 : (enumL 0 (dI l))[i]? = some x := by rw [← ei]; exact List.getElem?_eq_getElem hi
      obtain ⟨y, hy, rfl⟩ := enum_at hx3
      obtain ⟨c, rfl, hc⟩ := dI_some hy
      subst_eqs
      exact ⟨fun g => ⟨congrArg some (if_pos g).symm, rfl⟩, fun g => ⟨congrArg some (if_neg g).symm, rfl⟩⟩
    · have hm : ∃ l2 : List Int, NumL q l2 ∧ l2.length ≤ 4 ∧ (enumL 0 (dI l)).map firstD = dI l2 := by
        refine ⟨(List.range l.length).map fun i => if i = 0 then cf l i else 0, fun x hx => ?_, by simpa using ll, ?_⟩
        · obtain ⟨i, _, rfl⟩ := List.mem_map.mp hx
          show Num q (if i = 0 then cf l i else 0)
          split
          · exact hl.cf hq.out i
          · exact hq.out.zero
        · refine List.ext_getElem? fun i => ?_
          rw [List.getElem?_map]
          cases g : (enumL 0 (dI l))[i]? with
          | none =>
            have : l.length ≤ i := by
              have := List.getElem?_eq_none_iff.mp g
              rwa [enum_length, dI_length] at this
            symm
            rw [Option.map_none, List.getElem?_eq_none_iff]
            simpa [dI] using this
          | some x =>
            obtain ⟨y, hy, rfl⟩ := enum_at g
            obtain ⟨c, rfl, hc⟩ := dI_some hy
            have il := (List.getElem?_eq_some_iff.mp hc).1
            have ec := cf_some hc
            symm
            unfold dI
            rw [List.getElem?_map, List.getElem?_map, List.getElem?_range il, Option.map_some, Option.map_some, Option.map_some, ec]
            show some (PyData.int (if i = 0 then c else 0)) = some (if ((0 + i : Nat) : Int) = 0 then .int c else .int 0)
            by_cases h0 : i = 0
            · rw [if_pos h0, if_pos (by omega)]
            · rw [if_neg h0, if_neg (by omega)]
      obtain ⟨l2, n2, ll2, e3⟩ := hm
      rw [e3]
      dsimp! [he, dI_length]
      exact ⟨by omega, o, l2, ho, n2, ll2, rfl⟩
  rintro _ ⟨o, l, ho, hl, ll, rfl⟩
  subst_eqs
  rw [dI_length]
  refine ⟨by omega, ?_⟩
  refine draw_ne (n := n + 1) H ho fun o r u ho hu eu => ?_
  obtain ⟨p, hp, ep⟩ := bend_of hl ll hu
  dsimp! [eu]
  have w := h o p ho hp
  rw [ep] at w
  have e4 : PyData.int 0 :: .int 0 :: (dI l ++ [.int u.v]) = dI (0 :: 0 :: (l ++ [u.v])) := by simp [dI]
  rw [e4, dI_length]
  exact ⟨by omega, w⟩
end
/-! steps that the law draws (own work) -/
section
variable {P : Prg} {q : Int} [hq : FldI q]
open ST
theorem okF : ∀ F : Stk q, (∀ x ∈ F, x.1 ≠ Bd.zero) → (∀ i x, F[i + 1]? = some x → ∃ e, x.2 = some e) → StOk F.reverse :=
  snoc_ind (fun _ _ => trivial) fun F x ih h1 h2 => by
    rw [List.reverse_append]
    show x.1 ≠ Bd.zero ∧ (x.2 = none → F.reverse = []) ∧ StOk F.reverse
    refine ⟨h1 x (by simp), fun hx => ?_, ih (fun y hy => h1 y (List.mem_append_left _ hy)) fun i y hy => h2 i y ?_⟩
    · cases F with
      | nil => rfl
      | cons y F =>
        obtain ⟨e, he⟩ := h2 F.length x (by simp)
        rw [hx] at he
        cases he
    · rw [List.getElem?_append_left (List.getElem?_eq_some_iff.mp hy).1]
      exact hy
/-- a step by its parts -/
theorem mkSt (ps : List (Bd (El q))) (ts : List (El q)) (s : Option (El q)) (h1 : ∀ p ∈ ps, p ≠ Bd.zero) (h2 : ts.length = ps.length - 1) (h3 : ps = [] → s = none) :
    ∃ st : Stk q, StOk st ∧ bsL st = ps.map bD ∧ tsL st = vL ts ∧ s0 st = tI s ∧ st.length = ps.length := by
  cases ps with
  | nil =>
    rw [h3 rfl]
    have : ts = [] := List.eq_nil_of_length_eq_zero (by simpa using h2)
    subst this
    exact ⟨[], trivial, rfl, rfl, rfl, rfl⟩
  | cons p ps =>
    have hl : (p :: ps).length = (s :: ts.map some).length := by simp at h2 ⊢; omega
    refine ⟨((p :: ps).zip (s :: ts.map some)).reverse, okF _ (fun x hx => h1 x.1 (List.of_mem_zip (a := x.1) (b := x.2) hx).1) (fun i x hx => ?_), ?_, ?_, ?_, ?_⟩
    · rw [List.getElem?_zip_eq_some] at hx
      obtain ⟨_, hb⟩ := hx
      rw [List.getElem?_cons_succ, List.getElem?_map] at hb
      obtain ⟨e, _, he⟩ := Option.map_eq_some_iff.mp hb
      exact ⟨e, he.symm⟩
    · unfold bsL fw
      rw [List.reverse_reverse]
      have : (((p :: ps).zip (s :: ts.map some)).map fun x => bD x.1) = (((p :: ps).zip (s :: ts.map some)).map Prod.fst).map bD := by rw [List.map_map]; rfl
      rw [this, List.map_fst_zip (by omega)]
    · unfold tsL tsA fw
      rw [List.reverse_reverse]
      have : (((p :: ps).zip (s :: ts.map some)).map fun x => tI x.2) = (((p :: ps).zip (s :: ts.map some)).map Prod.snd).map tI := by rw [List.map_map]; rfl
      rw [this, List.map_snd_zip (by omega), List.map_cons, List.tail_cons, List.map_map]
      rfl
    · unfold s0 tsA fw
      rw [List.reverse_reverse]
      rfl
    · rw [List.length_reverse, List.length_zip]
      omega
theorem rep_len {α : Type} {n : Nat} {l : List α} : (List.replicate n l).flatten.length = n * l.length := by
  induction n with
  | zero => simp
  | succ n ih => rw [List.replicate_succ, List.flatten_cons, List.length_append, ih, Nat.succ_mul]; omega
theorem rep_map {α : Type} {n : Nat} {l : List α} {f : α → D} : rep n (l.map f) = (List.replicate n l).flatten.map f := by
  unfold rep
  induction n with
  | zero => rfl
  | succ n ih => rw [List.replicate_succ, List.flatten_cons, ih, List.replicate_succ, List.flatten_cons, List.map_append]
theorem rep_mem {α : Type} {n : Nat} {l : List α} {x : α} (h : x ∈ (List.replicate n l).flatten) : x ∈ l := by
  obtain ⟨m, hm, hx⟩ := List.mem_flatten.mp h
  rw [List.eq_of_mem_replicate hm] at hx
  exact hx
theorem gstep_spec (H : LwG P) {o : O} (ho : Deck o) {k : Int} (k0 : 0 ≤ k) (k1 : k ≤ 100) {n : Nat} {Q : RV → List Sl → Prop} (h : ∀ o' (s : Stp (El q)), Deck o' → s.Ok → (s.st.length : Int) = k → Q (.val (stepD s)) [.own o', .val (.int q), .val (.int k)]) :
    CW (cfg P (n + 4)) "_law_step" [] [.own o, .val (.int q), .val (.int k)] Q := by
  refine CW_pos H.step rfl ?_
  show WB (cfg P (n + 3)) f__law_step.body [some (.own o), some (.val (.int q)), some (.val (.int k)), none, none, none, none, none] _
  unfold f__law_step
  have q2 := hq.out.lo
  have q3 := hq.out.hi
  refine WB_cut (fun e => ∃ o w, Deck o ∧ e = [some (.own o), some (.val (.int q)), some (.val (.int k)), some (.val (.int w)), none, none, none, none]) ?_ ?_
  · subst_eqs
    refine draw_spec (n := n + 2) (m := 4) H.draw ho (by omega) (by omega) fun o w ho hw => ?_
    subst_eqs
    exact ⟨_, _, ho, rfl⟩
  rintro _ ⟨o, w, ho, rfl⟩
  refine WB_cut (fun e => ∃ o s, Deck o ∧ (k = 0 → s = none) ∧ e = [some (.own o), some (.val (.int q)), some (.val (.int k)), some (.val (.int w)), some (.val (.int (tI (s : Option (El q))))), none, none, none]) ?_ ?_
  · subst_eqs
    refine ⟨fun hk => ?_, fun hk => ⟨o, none, ho, fun _ => rfl, rfl⟩⟩
    refine draw_spec (n := n + 2) (m := q + 1) H.draw ho (by omega) (by omega) fun o r ho hr => ?_
    obtain ⟨r0, r1⟩ := hr
    subst_eqs
    by_cases hr0 : r = 0
    · subst hr0
      exact ⟨o, none, ho, fun _ => rfl, rfl⟩
    · exact ⟨o, some ⟨r - 1, ⟨by omega, by omega⟩⟩, ho, fun z => by omega, rfl⟩
  rintro _ ⟨o, s, ho, hs, rfl⟩
  refine WB_cut (fun e => ∃ o ps, Deck o ∧ (ps.length : Int) = k ∧ (∀ p ∈ ps, p ≠ Bd.zero) ∧ e = [some (.own o), some (.val (.int q)), some (.val (.int k)), some (.val (.int w)), some (.val (.int (tI s))), some (.val (.list (List.map bD (ps : List (Bd (El q)))))), none, none]) ?_ ?_
  · dsimp! [show rngOk 0 k = true from rngOk_iff.mpr (by omega)]
    refine ⟨rfl, ?_⟩
    refine LcW_inv (fun j ds e => ∃ o ps x7, ds = List.map bD (ps : List (Bd (El q))) ∧ ps.length = j ∧ (∀ p ∈ ps, p ≠ Bd.zero) ∧ Deck o ∧ e = [some (.own o), some (.val (.int q)), some (.val (.int k)), some (.val (.int w)), some (.val (.int (tI s))), none, none, x7]) ⟨o, [], none, rfl, rfl, fun x hx => (by cases hx), ho, rfl⟩ ?_ ?_
    · rintro j x ds e hx ⟨o, ps, x7, rfl, hl, hn, ho, rfl⟩
      obtain ⟨hj, rfl⟩ := tabI_get.mp hx
      subst_eqs
      refine bend_spec H ho fun o p ho hp => ?_
      subst_eqs
      refine ⟨o, ps ++ [p], _, by simp, by simp [hl], fun y hy => ?_, ho, rfl⟩
      rcases List.mem_append.mp hy with hy | hy
      · exact hn y hy
      · rw [List.mem_singleton.mp hy]; exact hp
    · rintro ds e ⟨o, ps, x7, rfl, hl, hn, ho, rfl⟩
      rw [tabI_len] at hl
      dsimp! [backE, List.length_map]
      exact ⟨by omega, o, ps, ho, by omega, hn, rfl⟩
  rintro _ ⟨o, ps, ho, pl, hp, rfl⟩
  refine WB_cut (fun e => ∃ o ts, Deck o ∧ ts.length = ps.length - 1 ∧ e = [some (.own o), some (.val (.int q)), some (.val (.int k)), some (.val (.int w)), some (.val (.int (tI s))), some (.val (.list (List.map bD ps))), some (.val (.list (dI (vL (ts : List (El q)))))), none]) ?_ ?_
  · dsimp! [show rngOk 0 (k - 1) = true from rngOk_iff.mpr (by omega)]
    refine ⟨rfl, ?_⟩
    refine LcW_inv (fun j ds e => ∃ o ts x7, ds = dI (vL (ts : List (El q))) ∧ ts.length = j ∧ Deck o ∧ e = [some (.own o), some (.val (.int q)), some (.val (.int k)), some (.val (.int w)), some (.val (.int (tI s))), some (.val (.list (List.map bD ps))), none, x7]) ⟨o, [], none, rfl, rfl, ho, rfl⟩ ?_ ?_
    · rintro j x ds e hx ⟨o, ts, x7, rfl, hl, ho, rfl⟩
      obtain ⟨hj, rfl⟩ := tabI_get.mp hx
      subst_eqs
      refine draw_el (n := n + 2) H ho fun o a ho => ?_
      subst_eqs
      exact ⟨o, ts ++ [a], _, by simp [vL, dI], by simp [hl], ho, rfl⟩
    · rintro ds e ⟨o, ts, x7, rfl, hl, ho, rfl⟩
      rw [tabI_len] at hl
      dsimp! [backE, dI_length, vL_len]
      exact ⟨by omega, o, ts, ho, by omega, rfl⟩
  rintro _ ⟨o, ts, ho, tl, rfl⟩
  refine WB_cut (fun e => ∃ ps ts, (ps.length : Int) = k ∧ (∀ p ∈ ps, p ≠ Bd.zero) ∧ ts.length = ps.length - 1 ∧ e = [some (.own o), some (.val (.int q)), some (.val (.int k)), some (.val (.int w)), some (.val (.int (tI s))), some (.val (.list (List.map bD (ps : List (Bd (El q)))))), some (.val (.list (dI (vL (ts : List (El q)))))), none]) ?_ ?_
  · have c1 : cut (List.map bD ps) none (some 1) = List.map bD (ps.take 1) := by
      have := cut_hi (xs := List.map bD ps) (hi := 1)
      rw [← List.map_take] at this
      exact this
    have c2 : cut (dI (vL ts)) none (some 1) = List.map (fun a : El q => .int a.v) (ts.take 1) := by
      have := cut_hi (xs := dI (vL ts)) (hi := 1)
      refine this.trans ?_
      simp [dI, vL, List.map_take]
      rfl
    have lp : (ps.take 1).length ≤ 1 := by rw [List.length_take]; omega
    have lt : (ts.take 1).length ≤ 1 := by rw [List.length_take]; omega
    dsimp! [c1, c2, rep_map, List.length_map]
    refine ⟨fun _ => ?_, fun _ => ⟨ps, ts, pl, hp, tl, rfl⟩⟩
    have m1 : (ps.take 1).length * k.toNat ≤ 1 * 100 := Nat.mul_le_mul lp (by omega)
    have m2 : (ts.take 1).length * (k - 1).toNat ≤ 1 * 100 := Nat.mul_le_mul lt (by omega)
    refine ⟨⟨by omega, by omega, by omega⟩, ⟨by omega, by omega, by omega⟩, (List.replicate k.toNat (ps.take 1)).flatten, (List.replicate (k - 1).toNat (ts.take 1)).flatten, ?_, fun p hp2 => hp p (List.mem_of_mem_take (rep_mem hp2)), ?_, ?_⟩
    · rw [rep_len, List.length_take]
      by_cases z : ps.length = 0
      · have : k = 0 := by omega
        rw [this, z]
        rfl
      · rw [Nat.min_eq_left (by omega), Nat.mul_one]
        omega
    · rw [rep_len, rep_len, List.length_take, List.length_take]
      by_cases z : ps.length = 0
      · have e1 : k.toNat = 0 := by omega
        have e2 : (k - 1).toNat = 0 := by omega
        rw [e1, e2, Nat.zero_mul, Nat.zero_mul]
      · by_cases z2 : ps.length = 1
        · have e2 : (k - 1).toNat = 0 := by omega
          rw [e2, Nat.zero_mul, Nat.min_eq_left (by omega), Nat.mul_one]
          omega
        · rw [Nat.min_eq_left (by omega), Nat.min_eq_left (by omega), Nat.mul_one, Nat.mul_one]
          omega
    · have e5 : ∀ X : List (El q), dI (vL X) = X.map fun a => PyData.int a.v := fun X => by
        simp [dI, vL]
      rw [e5]
  rintro _ ⟨ps, ts, pl, hp, tl, rfl⟩
  obtain ⟨st, s1, s2, s3, s4, s5⟩ := mkSt ps ts s hp tl fun z => hs (by rw [← pl, z]; rfl)
  subst_eqs
  refine map_spec H ho fun o m ho hm => ?_
  have w2 := h o ⟨st, m⟩ ho ⟨s1, hm⟩ (by rw [← pl, ← s5])
  rw [show stepD (⟨st, m⟩ : Stp (El q)) = .tuple [.int (s0 st), .tuple (bsL st), .tuple (dI (tsL st)), mD m] from rfl, s2, s3, s4] at w2
  subst_eqs
  exact w2
end
/-! short steps, changes, steps seen (own work) -/
def f__law_short : Fn := ⟨["_law_deck_here", "_law_q", "_law_sort", "_law_most"], 7, (.cons (.ifs (.cmp .eq (.var 2) (.con (.int 0))) (.cons (.ret (.tup (.cons (.neg (.con (.int 1))) (.cons (.tup .nil) (.cons (.tup .nil) (.cons (.call "_law_map" (.cons (.lend 0) (.cons (.var 1) .nil)) []) .nil)))))) .nil) .nil) (.cons (.asg (.nm 4) (.call "_law_step" (.cons (.lend 0) (.cons (.var 1) (.cons (.ite (.cmp .eq (.var 2) (.con (.int 1))) (.con (.int 1)) (.bin .add (.con (.int 1)) (.call "_law_draw" (.cons (.lend 0) (.cons (.var 3) .nil)) []))) .nil))) [])) (.cons (.par [(5, false), (6, false)] (.cons (.call "_law_both" (.cons (.lend 0) (.cons (.var 1) .nil)) []) (.cons (.call "_law_draw" (.cons (.lend 0) (.cons (.var 1) .nil)) []) .nil))) (.cons (.ret (.tup (.cons (.neg (.con (.int 1))) (.cons (.idx (.var 4) (.con (.int 1))) (.cons (.idx (.var 4) (.con (.int 2))) (.cons (.ite (.cmp .eq (.var 2) (.con (.int 1))) (.var 5) (.call "_law_then" (.cons (.var 1) (.cons (.tup (.cons (.con (.int 0)) (.cons (.con (.int 1)) (.cons (.con (.int 0)) (.cons (.con (.int 1)) (.cons (.var 6) (.cons (.con (.int 0)) .nil))))))) (.cons (.var 5) .nil))) [])) .nil)))))) .nil))))⟩
def f__law_change : Fn := ⟨["_law_deck_here", "_law_q", "_law_core"], 6, (.cons (.par [(3, false), (4, false)] (.cons (.call "_law_draw" (.cons (.lend 0) (.cons (.con (.int 4)) .nil)) []) (.cons (.call "_law_pick" (.cons (.lend 0) (.cons (.tup (.cons (.con (.int 1)) (.cons (.con (.int 0)) (.cons (.con (.int 2)) (.cons (.con (.int 1)) (.cons (.con (.int 3)) (.cons (.con (.int 0)) .nil))))))) .nil)) []) .nil))) (.cons (.par [(5, false), (4, false)] (.cons (.call "_law_step" (.cons (.lend 0) (.cons (.var 1) (.cons (.var 4) .nil))) []) (.cons (.call "_law_draw" (.cons (.lend 0) (.cons (.con (.int 6)) .nil)) []) .nil))) (.cons (.ifs (.cmp .lt (.var 3) (.con (.int 2))) (.cons (.ret (.var 5)) .nil) .nil) (.cons (.ret (.call "_law_made" (.cons (.var 1) (.cons (.bin .add (.slc (.call "_law_row" (.cons (.var 2) .nil) []) .non (.som (.var 4))) (.call "_law_row" (.cons (.var 5) .nil) [])) .nil)) [])) .nil))))⟩
def f__law_seen : Fn := ⟨["_law_q", "_law_step_here", "_law_change_here"], 4, (.cons (.asg (.nm 3) (.call "_law_row" (.cons (.var 2) .nil) [])) (.cons (.ret (.call "_law_made" (.cons (.var 0) (.cons (.bin .add (.bin .add (.call "_law_back" (.cons (.var 0) (.cons (.var 3) .nil)) []) (.call "_law_row" (.cons (.var 1) .nil) [])) (.var 3)) .nil)) [])) .nil))⟩
def f__law_same : Fn := ⟨["_law_told", "_law_due"], 2, (.cons (.ret (.cmp .eq (.blt .repr (.cons (.var 0) .nil)) (.blt .repr (.cons (.var 1) .nil)))) .nil)⟩
structure LwH (P : Prg) : Prop where
  g : LwG P
  short : P.Has "_law_short" f__law_short
  change : P.Has "_law_change" f__law_change
  seen : P.Has "_law_seen" f__law_seen
  same : P.Has "_law_same" f__law_same
section
variable {P : Prg} {q : Int} [hq : FldI q]
open ST
theorem st_ne : ∀ {st : Stk q}, StOk st → ∀ x ∈ st, x.1 ≠ Bd.zero
  | [], _, x, hx => by cases hx
  | (b, t) :: st, ⟨h1, _, h3⟩, x, hx => by
    rcases List.mem_cons.mp hx with rfl | hx
    · exact h1
    · exact st_ne h3 x hx
/-- the same without a start -/
theorem unstart {st : Stk q} (h : StOk st) : ∃ st' : Stk q, StOk st' ∧ bsL st' = bsL st ∧ tsL st' = tsL st ∧ s0 st' = -1 ∧ st'.length = st.length := by
  obtain ⟨ts, ht⟩ := num_vL (ts_num h)
  have tl : ts.length = ((fw st).map Prod.fst).length - 1 := by
    rw [← vL_len, ht, ts_len]
    simp [fw]
  obtain ⟨st', a, b, c, d, e⟩ := mkSt ((fw st).map Prod.fst) ts none (fun p hp => by
    obtain ⟨x, hx, rfl⟩ := List.mem_map.mp hp
    exact st_ne h x (List.mem_reverse.mp hx)) tl (fun _ => rfl)
  refine ⟨st', a, ?_, ?_, d, ?_⟩
  · rw [b, List.map_map]
    rfl
  · rw [c, ht]
  · rw [e]
    simp [fw]
theorem short_spec (H : LwH P) {o : O} (ho : Deck o) {k m : Int} (m0 : 1 ≤ m) (m1 : m ≤ 99) {n : Nat} {Q : RV → List Sl → Prop} (h : ∀ o' (s : Stp (El q)), Deck o' → s.Ok → s.st.length ≤ 100 → Q (.val (stepD s)) [.own o', .val (.int q), .val (.int k), .val (.int m)]) :
    CW (cfg P (n + 5)) "_law_short" [] [.own o, .val (.int q), .val (.int k), .val (.int m)] Q := by
  refine CW_pos H.short rfl ?_
  show WB (cfg P (n + 4)) f__law_short.body [some (.own o), some (.val (.int q)), some (.val (.int k)), some (.val (.int m)), none, none, none] _
  unfold f__law_short
  by_cases k0 : k = 0
  · subst k0
    subst_eqs
    refine map_spec (n := n + 1) H.g ho fun o mm ho hm => ?_
    subst_eqs
    exact h o ⟨[], mm⟩ ho ⟨trivial, hm⟩ (Nat.zero_le _)
  refine WB_cut (fun e => e = [some (.own o), some (.val (.int q)), some (.val (.int k)), some (.val (.int m)), none, none, none]) ?_ ?_
  · subst_eqs
    exact fun z => absurd z k0
  rintro _ rfl
  refine WB_cut (fun e => ∃ o s, Deck o ∧ Stp.Ok s ∧ s.st.length ≤ 100 ∧ e = [some (.own o), some (.val (.int q)), some (.val (.int k)), some (.val (.int m)), some (.val (stepD (s : Stp (El q)))), none, none]) ?_ ?_
  · subst_eqs
    refine ⟨fun _ => ?_, fun _ => ?_⟩
    · refine gstep_spec H.g ho (k := 1) (by omega) (by omega) fun o s ho hs hl => ?_
      subst_eqs
      exact ⟨o, s, ho, hs, by omega, rfl⟩
    · refine draw_spec (n := n + 3) (m := m) H.g.draw ho (by omega) (by omega) fun o r ho hr => ?_
      obtain ⟨r0, r1⟩ := hr
      subst_eqs
      refine gstep_spec H.g ho (k := 1 + r) (by omega) (by omega) fun o s ho hs hl => ?_
      subst_eqs
      exact ⟨o, s, ho, hs, by omega, rfl⟩
  rintro _ ⟨o, s, ho, hs, sl, rfl⟩
  obtain ⟨st, u1, u2, u3, u4, u5⟩ := unstart hs.st
  have fin : ∀ o (mm : Mp (El q)), Deck o → mm.det ≠ 0 → Q (.val (.tuple [.int (-1), .tuple (bsL s.st), .tuple (dI (tsL s.st)), mD mm])) [.own o, .val (.int q), .val (.int k), .val (.int m)] := fun o mm ho hm => by
    have w := h o ⟨st, mm⟩ ho ⟨u1, hm⟩ (by show st.length ≤ 100; omega)
    rw [show stepD (⟨st, mm⟩ : Stp (El q)) = .tuple [.int (s0 st), .tuple (bsL st), .tuple (dI (tsL st)), mD mm] from rfl, u2, u3, u4] at w
    exact w
  refine WB_cut (fun e => ∃ o mm e6, Deck o ∧ Low mm ∧ e = [some (.own o), some (.val (.int q)), some (.val (.int k)), some (.val (.int m)), some (.val (stepD s)), some (.val (mD (mm : Mp (El q)))), some (.val (.int (El.v (e6 : El q))))]) ?_ ?_
  · subst_eqs
    refine both_spec (n := n + 2) H.g ho fun o mm ho hm => ?_
    subst_eqs
    refine draw_el (n := n + 3) H.g ho fun o a ho => ?_
    subst_eqs
    exact ⟨o, mm, a, ho, hm, rfl⟩
  rintro _ ⟨o, mm, a, ho, hm, rfl⟩
  rw [show stepD s = PyData.tuple [.int (s0 s.st), .tuple (bsL s.st), .tuple (dI (tsL s.st)), mD s.last] from rfl]
  dsimp! [at1, at2]
  refine ⟨fun _ => fin o mm ho hm.det, fun _ => ?_⟩
  refine ll_then (n := n + 1) H.g.s.n H.g.s.then_ (tm a) mm ?_
  subst_eqs
  exact fin o _ ho (det_ne (det_tm a) hm.det)
theorem change_spec (H : LwH P) {o : O} (ho : Deck o) {c : Stp (El q)} (hc : c.Ok) (cl : c.st.length ≤ 1000) {n : Nat} {Q : RV → List Sl → Prop} (h : ∀ o' (s : Stp (El q)), Deck o' → s.Ok → s.st.length ≤ 100 → Q (.val (stepD s)) [.own o', .val (.int q), .val (stepD c)]) :
    CW (cfg P (n + 6)) "_law_change" [] [.own o, .val (.int q), .val (stepD c)] Q := by
  refine CW_pos H.change rfl ?_
  show WB (cfg P (n + 5)) f__law_change.body [some (.own o), some (.val (.int q)), some (.val (stepD c)), none, none, none] _
  unfold f__law_change
  refine WB_cut (fun e => ∃ o w k, Deck o ∧ 0 ≤ k ∧ k ≤ 3 ∧ e = [some (.own o), some (.val (.int q)), some (.val (stepD c)), some (.val (.int w)), some (.val (.int k)), none]) ?_ ?_
  · subst_eqs
    refine draw_spec (n := n + 4) (m := 4) H.g.draw ho (by omega) (by omega) fun o w ho hw => ?_
    subst_eqs
    refine pickT_spec (n := n + 3) (l := [PyData.int 1, .int 0, .int 2, .int 1, .int 3, .int 0]) H.g.draw H.g.pick ho (by simp) (by simp) fun o x ho hx => ?_
    have hx2 : ∃ z : Int, 0 ≤ z ∧ z ≤ 3 ∧ x = .int z := by
      simp only [List.mem_cons, List.not_mem_nil, or_false] at hx
      rcases hx with rfl | rfl | rfl | rfl | rfl | rfl <;> exact ⟨_, by decide, by decide, rfl⟩
    obtain ⟨z, z0, z1, rfl⟩ := hx2
    subst_eqs
    exact ⟨o, w, z, ho, z0, z1, rfl⟩
  rintro _ ⟨o, w, k, ho, k0, k1, rfl⟩
  refine WB_cut (fun e => ∃ o s j, Deck o ∧ Stp.Ok s ∧ s.st.length ≤ 3 ∧ j ≤ 6 ∧ e = [some (.own o), some (.val (.int q)), some (.val (stepD c)), some (.val (.int w)), some (.val (.int (j : Nat))), some (.val (stepD (s : Stp (El q))))]) ?_ ?_
  · subst_eqs
    refine gstep_spec (n := n + 1) H.g ho k0 (by omega) fun o s ho hs hl => ?_
    subst_eqs
    refine draw_spec (n := n + 4) (m := 6) H.g.draw ho (by omega) (by omega) fun o r ho hr => ?_
    obtain ⟨r0, r1⟩ := hr
    subst_eqs
    exact ⟨o, s, r.toNat, ho, hs, by omega, by omega, by rw [Int.toNat_of_nonneg r0]⟩
  rintro _ ⟨o, s, j, ho, hs, sl, j6, rfl⟩
  have rl := row_len s
  have rc := row_len c
  have cj : cut (rowD (row c)) none (some (j : Int)) = rowD ((row c).take j) := by
    rw [cut_hi]
    simp [rowD, List.map_take]
  have ok : RowOk ((row c).take j ++ row s) := RowOk.app (fun p hp => row_ok hc p (List.mem_of_mem_take hp)) (row_ok hs)
  have e1 : rowD ((row c).take j) ++ rowD (row s) = rowD ((row c).take j ++ row s) := rowD_app.symm
  have ln : ((row c).take j ++ row s).length ≤ 13 := by
    rw [List.length_append, List.length_take]
    omega
  have ml := acts_len ((row c).take j ++ row s) (ST.nil : Stp (El q))
  rw [show (ST.nil : Stp (El q)).st.length = 0 from rfl] at ml
  subst_eqs
  refine ⟨fun _ => h o s ho hs (by omega), fun _ => ?_⟩
  refine row_spec (n := n + 4) H.g.s hc (by omega) ?_
  dsimp! [cj]
  refine row_spec (n := n + 4) H.g.s hs (by omega) ?_
  dsimp! [cj, rowD_len, List.length_take]
  rw [e1]
  refine ⟨by omega, ?_⟩
  refine made_spec H.g.s ok (by omega) ?_
  subst_eqs
  exact h o _ ho (mk_ok ok) (by unfold mk; omega)
theorem lseen_spec (H : LwH P) {s c : Stp (El q)} (hs : s.Ok) (hc : c.Ok) (sl : s.st.length ≤ 10000) (cl : c.st.length ≤ 10000) {n : Nat} {Q : RV → List Sl → Prop} (h : Q (.val (stepD (mk (bk (row c) ++ row s ++ row c)))) [.val (.int q), .val (stepD s), .val (stepD c)]) :
    CW (cfg P (n + 6)) "_law_seen" [] [.val (.int q), .val (stepD s), .val (stepD c)] Q := by
  refine CW_pos H.seen rfl ?_
  show WB (cfg P (n + 5)) f__law_seen.body [some (.val (.int q)), some (.val (stepD s)), some (.val (stepD c)), none] _
  unfold f__law_seen
  have rs := row_len s
  have rc := row_len c
  have bl : (bk (row c)).length = (row c).length := by simp [bk]
  have ok : RowOk (bk (row c) ++ row s ++ row c) := ((bk_ok (row_ok hc)).app (row_ok hs)).app (row_ok hc)
  have e1 : rowD (bk (row c)) ++ rowD (row s) ++ rowD (row c) = rowD (bk (row c) ++ row s ++ row c) := by rw [rowD_app, rowD_app]
  have ln : (bk (row c) ++ row s ++ row c).length ≤ 70000 := by
    rw [List.length_append, List.length_append]
    omega
  refine WB_cut (fun e => e = [some (.val (.int q)), some (.val (stepD s)), some (.val (stepD c)), some (.val (.list (rowD (row c))))]) ?_ ?_
  · subst_eqs
    refine row_spec (n := n + 4) H.g.s hc (by omega) ?_
    subst_eqs
  rintro _ rfl
  subst_eqs
  refine lback_spec (n := n + 1) H.g.s (row_ok hc) (by omega) ?_
  subst_eqs
  refine row_spec (n := n + 4) H.g.s hs (by omega) ?_
  dsimp! [rowD_len, List.length_append]
  refine ⟨by omega, by omega, ?_⟩
  rw [e1]
  refine made_spec H.g.s ok (by omega) ?_
  subst_eqs
  exact h
end
/-! products, undoings, steps seen by the program and by the law (own work) -/
def f_seen_by : Fn := ⟨["q", "step", "change"], 3, (.cons (.ret (.call "then" (.cons (.var 0) (.cons (.call "then" (.cons (.var 0) (.cons (.call "back" (.cons (.var 0) (.cons (.var 2) .nil)) []) (.cons (.var 1) .nil))) []) (.cons (.var 2) .nil))) [])) .nil)⟩
def f_seen : Fn := ⟨["q", "step", "change"], 3, (.cons (.exp (.call "check_step" (.cons (.var 0) (.cons (.var 1) .nil)) [])) (.cons (.exp (.call "check_step" (.cons (.var 0) (.cons (.var 2) .nil)) [])) (.cons (.ret (.call "seen_by" (.cons (.var 0) (.cons (.var 1) (.cons (.var 2) .nil))) [])) .nil)))⟩
def f_product : Fn := ⟨["q", "one", "other"], 3, (.cons (.exp (.call "check_step" (.cons (.var 0) (.cons (.var 1) .nil)) [])) (.cons (.exp (.call "check_step" (.cons (.var 0) (.cons (.var 2) .nil)) [])) (.cons (.ret (.call "then" (.cons (.var 0) (.cons (.var 1) (.cons (.var 2) .nil))) [])) .nil)))⟩
def f_undoing : Fn := ⟨["q", "step"], 2, (.cons (.exp (.call "check_step" (.cons (.var 0) (.cons (.var 1) .nil)) [])) (.cons (.ret (.call "back" (.cons (.var 0) (.cons (.var 1) .nil)) [])) .nil))⟩
def f_nothing : Fn := ⟨[], 0, (.cons (.ret (.glo "NOTHING")) .nil)⟩
structure Kin (P : Prg) : Prop where
  w : StW P
  check : P.Has "check_step" f_check_step
  then_ : P.Has "then" f_then
  seen_by : P.Has "seen_by" f_seen_by
  seen : P.Has "seen" f_seen
  product : P.Has "product" f_product
  undoing : P.Has "undoing" f_undoing
  nothing : P.Has "nothing" f_nothing
section
variable {P : Prg} {q : Int} [hq : FldI q]
open ST
abbrev GE (q : Int) [FldI q] := G (El q)
def gD (a : GE q) : D := stepD a.s
def gL (a : GE q) : Nat := a.s.st.length
theorem mul_len (a b : GE q) : gL (a.mul b) ≤ gL a + 2 * gL b + 1 := by
  have h1 := acts_len (row b.s) a.s
  have h2 := row_len b.s
  show (acts a.s (row b.s)).st.length ≤ a.s.st.length + 2 * b.s.st.length + 1
  omega
theorem inv_len (a : GE q) : gL a.inv ≤ 2 * gL a + 1 := by
  have h1 := acts_len (bk (row a.s)) (ST.nil : Stp (El q))
  have h2 := row_len a.s
  have h3 : (bk (row a.s)).length = (row a.s).length := by simp [bk]
  have h4 : (ST.nil : Stp (El q)).st.length = 0 := rfl
  show (acts ST.nil (bk (row a.s))).st.length ≤ 2 * a.s.st.length + 1
  omega
theorem seen_len (a c : GE q) : gL (a.seen c) ≤ 4 * gL c + 2 * gL a + 3 := by
  have e : a.seen c = ((c.inv).mul a).mul c := rfl
  rw [e]
  have h1 := mul_len ((c.inv).mul a) c
  have h2 := mul_len c.inv a
  have h3 := inv_len c
  omega
theorem g_back (K : Kin P) (a : GE q) (al : gL a ≤ 100000) {n : Nat} {Q : RV → List Sl → Prop} (h : Q (.val (gD a.inv)) [.val (.int q), .val (gD a)]) : CW (cfg P (n + 8)) "back" [] [.val (.int q), .val (gD a)] Q :=
  back_step_spec K.w a.ok al h
theorem g_then (K : Kin P) (a b : GE q) (al : gL a ≤ 100000) (bl : gL b ≤ 100000) {n : Nat} {Q : RV → List Sl → Prop} (h : Q (.val (gD (a.mul b))) [.val (.int q), .val (gD a), .val (gD b)]) : CW (cfg P (n + 8)) "then" [] [.val (.int q), .val (gD a), .val (gD b)] Q :=
  then_spec K.w K.then_ a.ok b.ok al bl h
theorem g_check (K : Kin P) (a : GE q) (al : gL a ≤ 100000) {n : Nat} {Q : RV → List Sl → Prop} (h : Q (.val .none) [.val (.int q), .val (gD a)]) : CW (cfg P (n + 8)) "check_step" [] [.val (.int q), .val (gD a)] Q :=
  check_spec K.w K.check a.ok (by unfold gL at al; omega) h
theorem g_seen_by (K : Kin P) (a c : GE q) (al : gL a ≤ 10000) (cl : gL c ≤ 10000) {n : Nat} {Q : RV → List Sl → Prop} (h : Q (.val (gD (a.seen c))) [.val (.int q), .val (gD a), .val (gD c)]) : CW (cfg P (n + 9)) "seen_by" [] [.val (.int q), .val (gD a), .val (gD c)] Q := by
  refine CW_pos K.seen_by rfl ?_
  show WB (cfg P (n + 8)) f_seen_by.body [some (.val (.int q)), some (.val (gD a)), some (.val (gD c))] _
  unfold f_seen_by
  have l1 := inv_len c
  have l2 := mul_len c.inv a
  subst_eqs
  refine g_back K c (by omega) ?_
  subst_eqs
  refine g_then K c.inv a (by omega) (by omega) ?_
  subst_eqs
  refine g_then K (c.inv.mul a) c (by omega) (by omega) ?_
  subst_eqs
  exact h
theorem g_seen (K : Kin P) (a c : GE q) (al : gL a ≤ 10000) (cl : gL c ≤ 10000) {n : Nat} {Q : RV → List Sl → Prop} (h : Q (.val (gD (a.seen c))) [.val (.int q), .val (gD a), .val (gD c)]) : CW (cfg P (n + 10)) "seen" [] [.val (.int q), .val (gD a), .val (gD c)] Q := by
  refine CW_pos K.seen rfl ?_
  show WB (cfg P (n + 9)) f_seen.body [some (.val (.int q)), some (.val (gD a)), some (.val (gD c))] _
  unfold f_seen
  subst_eqs
  refine g_check (n := n + 1) K a (by omega) ?_
  subst_eqs
  refine g_check (n := n + 1) K c (by omega) ?_
  subst_eqs
  refine g_seen_by K a c al cl ?_
  subst_eqs
  exact h
theorem g_product (K : Kin P) (a b : GE q) (al : gL a ≤ 100000) (bl : gL b ≤ 100000) {n : Nat} {Q : RV → List Sl → Prop} (h : Q (.val (gD (a.mul b))) [.val (.int q), .val (gD a), .val (gD b)]) : CW (cfg P (n + 9)) "product" [] [.val (.int q), .val (gD a), .val (gD b)] Q := by
  refine CW_pos K.product rfl ?_
  show WB (cfg P (n + 8)) f_product.body [some (.val (.int q)), some (.val (gD a)), some (.val (gD b))] _
  unfold f_product
  subst_eqs
  refine g_check K a al ?_
  subst_eqs
  refine g_check K b bl ?_
  subst_eqs
  refine g_then K a b al bl ?_
  subst_eqs
  exact h
theorem g_undoing (K : Kin P) (a : GE q) (al : gL a ≤ 100000) {n : Nat} {Q : RV → List Sl → Prop} (h : Q (.val (gD a.inv)) [.val (.int q), .val (gD a)]) : CW (cfg P (n + 9)) "undoing" [] [.val (.int q), .val (gD a)] Q := by
  refine CW_pos K.undoing rfl ?_
  show WB (cfg P (n + 8)) f_undoing.body [some (.val (.int q)), some (.val (gD a))] _
  unfold f_undoing
  subst_eqs
  refine g_check K a al ?_
  subst_eqs
  refine g_back K a al ?_
  subst_eqs
  exact h
theorem nil_D : gD (G.nil : GE q) = cNOTHING := rfl
theorem g_nothing (K : Kin P) {n : Nat} {Q : RV → List Sl → Prop} (h : Q (.val cNOTHING) []) : CW (cfg P (n + 1)) "nothing" [] [] Q := by
  refine CW_pos K.nothing rfl ?_
  show WB (cfg P n) f_nothing.body [] _
  unfold f_nothing
  dsimp! [show P.glob "NOTHING" = some cNOTHING from K.w.noth]
  exact h
theorem g_lseen (H : LwH P) (a c : GE q) (al : gL a ≤ 10000) (cl : gL c ≤ 10000) {n : Nat} {Q : RV → List Sl → Prop} (h : Q (.val (gD (a.seen c))) [.val (.int q), .val (gD a), .val (gD c)]) : CW (cfg P (n + 6)) "_law_seen" [] [.val (.int q), .val (gD a), .val (gD c)] Q := by
  refine lseen_spec H a.ok c.ok al cl ?_
  have e : mk (bk (row c.s) ++ row a.s ++ row c.s) = (a.seen c).s := by
    show acts ST.nil (bk (row c.s) ++ row a.s ++ row c.s) = acts (acts (acts ST.nil (bk (row c.s))) (row a.s)) (row c.s)
    rw [acts_app, acts_app]
  rw [e]
  exact h
/-! what is shown -/
theorem fine_nums {l : List Int} (h : ∀ x ∈ l, -1 ≤ x ∧ x < 17) {m : Nat} (hl : l.length ≤ m) : Fine 1 (m * 6 + 3) (.tuple (dI l)) := by
  refine (fine_tuple (n := 0) (L := 4) (m := m) (fun d hd => ?_) (by rw [dI_length]; exact hl)).more (by omega) (by omega)
  obtain ⟨x, rfl, hx⟩ := dI_mem hd
  have := h x hx
  exact fine_int (k := 3) (by decide) (by decide) (by omega)
theorem num_small {l : List Int} (h : NumL q l) : ∀ x ∈ l, -1 ≤ x ∧ x < 17 := fun x hx => by
  have := h x hx
  have := hq.out.hi
  unfold Num at *
  omega
theorem fine_step (a : GE q) (al : gL a ≤ 3000) : Fine 3 564023 (gD a) := by
  have sn := s0_num a.s.st
  have q3 := hq.out.hi
  have bl := bs_len (st := a.s.st)
  have tl := ts_len (st := a.s.st)
  have fb : Fine 2 141003 (.tuple (bsL a.s.st)) := by
    refine (fine_tuple (n := 1) (L := 45) (m := 3000) (fun d hd => ?_) (by rw [bl]; exact al)).more (by omega) (by omega)
    obtain ⟨x, _, rfl⟩ := List.mem_map.mp hd
    exact fine_nums (num_small (bL_num x.1)) (bL_len x.1)
  have ft : Fine 2 141003 (.tuple (dI (tsL a.s.st))) := (fine_nums (num_small (ts_num a.ok.st)) (m := 3000) (by rw [tl]; unfold gL at al; omega)).more (by omega) (by omega)
  have fs : Fine 2 141003 (.int (s0 a.s.st)) := (fine_int (n := 2) (k := 3) (by decide) (by decide) (by omega)).more (by omega) (by omega)
  have fm : Fine 2 141003 (mD a.s.last) := by
    have e : mD a.s.last = .tuple (dI [a.s.last.a.v, a.s.last.b.v, a.s.last.c.v, a.s.last.d.v, a.s.last.e.v, a.s.last.f.v]) := rfl
    rw [e]
    refine (fine_nums (num_small (q := q) fun x hx => ?_) (m := 6) (by simp)).more (by omega) (by omega)
    simp only [List.mem_cons, List.not_mem_nil, or_false] at hx
    rcases hx with rfl | rfl | rfl | rfl | rfl | rfl <;> exact El.num _
  refine (fine_tuple (n := 2) (L := 141003) (m := 4) (fun d hd => ?_) (by simp)).more (by omega) (by omega)
  simp only [List.mem_cons, List.not_mem_nil, or_false] at hd
  rcases hd with rfl | rfl | rfl | rfl
  · exact fs
  · exact fb
  · exact ft
  · exact fm
theorem lsame_spec (H : LwH P) {a b : D} (e : a = b) {m L : Nat} (f : Fine m L a) (hm : m < 64) (hL : L ≤ 16777216) {n : Nat} {Q : RV → List Sl → Prop} (h : Q (.val (.bool true)) [.val a, .val b]) :
    CW (cfg P (n + 1)) "_law_same" [] [.val a, .val b] Q := by
  subst e
  refine CW_pos H.same rfl ?_
  show WB (cfg P n) f__law_same.body [some (.val a), some (.val a)] _
  unfold f__law_same
  dsimp! [repr_ok (f.rep hm hL), eq_str_refl f.str]
  exact h
end
/-! law k21: the law is true (own work) -/
def f_law : Fn := ⟨["_law_script"], 15, (.cons (.asgO 1 (.call "_law_deck" (.cons (.var 0) (.cons (.con (.int 10881021)) .nil)) [])) (.cons (.asg (.nm 2) (.call "_law_field" (.cons (.lend 1) .nil) [])) (.cons (.fo (.nm 3) (.blt .range (.cons (.con (.int 2)) .nil)) (.cons (.asg (.nm 4) (.call "_law_draw" (.cons (.lend 1) (.cons (.con (.int 5)) .nil)) [])) (.cons (.asg (.nm 5) (.ite (.cmp .lt (.var 4) (.con (.int 3))) (.call "_law_short" (.cons (.lend 1) (.cons (.var 2) (.cons (.var 4) (.cons (.con (.int 3)) .nil)))) []) (.call "_law_step" (.cons (.lend 1) (.cons (.var 2) (.cons (.call "_law_pick" (.cons (.lend 1) (.cons (.tup (.cons (.con (.int 2)) (.cons (.con (.int 1)) (.cons (.con (.int 3)) (.cons (.con (.int 0)) (.cons (.con (.int 4)) .nil)))))) .nil)) []) .nil))) []))) (.cons (.par [(6, false), (7, false)] (.cons (.call "_law_step" (.cons (.lend 1) (.cons (.var 2) (.cons (.call "_law_draw" (.cons (.lend 1) (.cons (.con (.int 3)) .nil)) []) .nil))) []) (.cons (.call "_law_change" (.cons (.lend 1) (.cons (.var 2) (.cons (.var 5) .nil))) []) .nil))) (.cons (.asg (.nm 8) (.call "_law_step" (.cons (.lend 1) (.cons (.var 2) (.cons (.call "_law_draw" (.cons (.lend 1) (.cons (.con (.int 2)) .nil)) []) .nil))) [])) (.cons (.par [(9, false), (10, false)] (.cons (.call "seen" (.cons (.var 2) (.cons (.var 5) (.cons (.var 7) .nil))) []) (.cons (.call "_law_row" (.cons (.var 7) .nil) []) .nil))) (.cons (.ifs (.not (.call "_law_same" (.cons (.lst (.cons (.var 9) (.cons (.call "seen" (.cons (.var 7) (.cons (.var 5) (.cons (.var 2) .nil))) ["change", "step", "q"]) .nil))) (.cons (.bin .mul (.lst (.cons (.call "_law_seen" (.cons (.var 2) (.cons (.var 5) (.cons (.var 7) .nil))) []) .nil)) (.con (.int 2))) .nil)) [])) (.cons (.ret (.con (.bl false))) .nil) .nil) (.cons (.asg (.nm 11) (.call "_law_made" (.cons (.var 2) (.cons (.call "_law_back" (.cons (.var 2) (.cons (.var 10) .nil)) []) .nil)) [])) (.cons (.ifs (.not (.call "_law_same" (.cons (.lst (.cons (.call "seen" (.cons (.var 2) (.cons (.var 9) (.cons (.var 11) .nil))) []) (.cons (.call "undoing" (.cons (.var 2) (.cons (.var 7) .nil)) []) .nil))) (.cons (.lst (.cons (.var 5) (.cons (.var 11) .nil))) .nil)) [])) (.cons (.ret (.con (.bl false))) .nil) .nil) (.cons (.ifs (.not (.call "_law_same" (.cons (.lst (.cons (.call "seen" (.cons (.var 2) (.cons (.var 5) (.cons (.var 5) .nil))) []) (.cons (.call "seen" (.cons (.var 2) (.cons (.var 5) (.cons (.call "nothing" .nil []) .nil))) []) (.cons (.call "seen" (.cons (.var 2) (.cons (.call "nothing" .nil []) (.cons (.var 7) .nil))) []) .nil)))) (.cons (.lst (.cons (.var 5) (.cons (.var 5) (.cons (.call "nothing" .nil []) .nil)))) .nil)) [])) (.cons (.ret (.con (.bl false))) .nil) .nil) (.cons (.asg (.nm 12) (.call "_law_made" (.cons (.var 2) (.cons (.bin .add (.var 10) (.call "_law_row" (.cons (.var 8) .nil) [])) .nil)) [])) (.cons (.ifs (.and (.cmp .lt (.blt .len (.cons (.idx (.var 9) (.con (.int 1))) .nil)) (.con (.int 9))) (.not (.call "_law_same" (.cons (.lst (.cons (.call "seen" (.cons (.var 2) (.cons (.var 9) (.cons (.var 8) .nil))) []) (.cons (.call "seen" (.cons (.var 2) (.cons (.var 5) (.cons (.var 12) .nil))) []) .nil))) (.cons (.bin .mul (.lst (.cons (.call "_law_seen" (.cons (.var 2) (.cons (.var 9) (.cons (.var 8) .nil))) []) .nil)) (.con (.int 2))) .nil)) []))) (.cons (.ret (.con (.bl false))) .nil) .nil) (.cons (.ifs (.not (.call "_law_same" (.cons (.call "seen" (.cons (.var 2) (.cons (.call "undoing" (.cons (.var 2) (.cons (.var 5) .nil)) []) (.cons (.var 7) .nil))) []) (.cons (.call "undoing" (.cons (.var 2) (.cons (.var 9) .nil)) []) .nil)) [])) (.cons (.ret (.con (.bl false))) .nil) .nil) (.cons (.asg (.nm 13) (.call "seen" (.cons (.var 2) (.cons (.var 6) (.cons (.var 7) .nil))) [])) (.cons (.ifs (.and (.cmp .lt (.blt .len (.cons (.idx (.var 13) (.con (.int 1))) .nil)) (.con (.int 13))) (.not (.call "_law_same" (.cons (.call "product" (.cons (.var 2) (.cons (.var 9) (.cons (.var 13) .nil))) []) (.cons (.call "seen" (.cons (.var 2) (.cons (.call "product" (.cons (.var 2) (.cons (.var 5) (.cons (.var 6) .nil))) []) (.cons (.var 7) .nil))) []) .nil)) []))) (.cons (.ret (.con (.bl false))) .nil) .nil) .nil))))))))))))))) (.cons (.par [(5, false), (7, false)] (.cons (.call "_law_step" (.cons (.lend 1) (.cons (.con (.int 2)) (.cons (.call "_law_draw" (.cons (.lend 1) (.cons (.con (.int 3)) .nil)) []) .nil))) []) (.cons (.call "_law_step" (.cons (.lend 1) (.cons (.con (.int 2)) (.cons (.call "_law_draw" (.cons (.lend 1) (.cons (.con (.int 3)) .nil)) []) .nil))) []) .nil))) (.cons (.fo (.nm 14) (.of (.tup (.cons (.con (.int 2)) (.cons (.con (.int 3)) (.cons (.con (.int 2)) .nil))))) (.cons (.ifs (.not (.call "_law_same" (.cons (.call "seen" (.cons (.var 14) (.cons (.var 5) (.cons (.var 7) .nil))) []) (.cons (.call "_law_seen" (.cons (.var 14) (.cons (.var 5) (.cons (.var 7) .nil))) []) .nil)) [])) (.cons (.ret (.con (.bl false))) .nil) .nil) .nil)) (.cons (.ifs (.cmp .eq (.call "_law_draw" (.cons (.lend 1) (.cons (.con (.int 8)) .nil)) []) (.con (.int 0))) (.cons (.par [(5, false), (7, false)] (.cons (.call "_law_step" (.cons (.lend 1) (.cons (.var 2) (.cons (.con (.int 12)) .nil))) []) (.cons (.call "_law_step" (.cons (.lend 1) (.cons (.var 2) (.cons (.bin .add (.con (.int 9)) (.call "_law_draw" (.cons (.lend 1) (.cons (.con (.int 4)) .nil)) [])) .nil))) []) .nil))) (.cons (.ifs (.not (.call "_law_same" (.cons (.call "seen" (.cons (.var 2) (.cons (.var 5) (.cons (.var 7) .nil))) []) (.cons (.call "_law_seen" (.cons (.var 2) (.cons (.var 5) (.cons (.var 7) .nil))) []) .nil)) [])) (.cons (.ret (.con (.bl false))) .nil) .nil) .nil)) .nil) (.cons (.ret (.call "_law_same" (.cons (.call "nothing" .nil []) (.cons (.tup (.cons (.neg (.con (.int 1))) (.cons (.tup .nil) (.cons (.tup .nil) (.cons (.tup (.cons (.con (.int 1)) (.cons (.con (.int 0)) (.cons (.con (.int 0)) (.cons (.con (.int 0)) (.cons (.con (.int 1)) (.cons (.con (.int 0)) .nil))))))) .nil))))) .nil)) [])) .nil)))))))⟩
section
variable {P : Prg}
open ST
/-- steps over 2 are steps over 3, by the same data -/
def emb (x : El 2) : El 3 := ⟨x.v, ⟨x.num.1, by have := x.num.2; omega⟩⟩
def embB (p : Bd (El 2)) : Bd (El 3) := ⟨emb p.c2, emb p.c3, emb p.c4, emb p.c5, emb p.c6⟩
def embM (m : Mp (El 2)) : Mp (El 3) := ⟨emb m.a, emb m.b, emb m.c, emb m.d, emb m.e, emb m.f⟩
def embX (x : Bd (El 2) × Option (El 2)) : Bd (El 3) × Option (El 3) := (embB x.1, x.2.map emb)
instance f2 : FldI 2 := ⟨by decide⟩
instance f3 : FldI 3 := ⟨by decide⟩
theorem emb_bL (p : Bd (El 2)) : bL (embB p) = bL p := rfl
theorem emb_ne {p : Bd (El 2)} (h : p ≠ Bd.zero) : embB p ≠ Bd.zero := fun z => h (bL_nil.mp (by rw [← emb_bL, bL_nil.mpr z]))
theorem emb_det {m : Mp (El 2)} (h : m.det ≠ 0) : (embM m).det ≠ 0 := by
  have h2 : plusF 2 (timesF 2 m.a.v m.e.v) (oppF 2 (timesF 2 m.b.v m.d.v)) ≠ 0 := El.ne_v h
  intro z
  have z2 : plusF 3 (timesF 3 m.a.v m.e.v) (oppF 3 (timesF 3 m.b.v m.d.v)) = 0 := congrArg El.v z
  have c : ∀ x : El 2, x.v = 0 ∨ x.v = 1 := fun x => by
    have := x.num.1
    have := x.num.2
    omega
  rcases c m.a with e1 | e1 <;> rcases c m.b with e2 | e2 <;> rcases c m.d with e3 | e3 <;> rcases c m.e with e4 | e4 <;> rw [e1, e2, e3, e4] at h2 z2 <;> revert h2 z2 <;> decide
theorem emb_ok : ∀ {st : Stk 2}, StOk st → StOk (st.map embX)
  | [], _ => trivial
  | (b, t) :: st, ⟨h1, h2, h3⟩ => by
    refine ⟨emb_ne h1, fun z => ?_, emb_ok h3⟩
    have : t = none := by
      cases t with
      | none => rfl
      | some e => cases z
    show st.map embX = []
    rw [h2 this]
    rfl
theorem two_three (a : GE 2) : ∃ b : GE 3, gD b = gD a ∧ gL b = gL a := by
  refine ⟨⟨⟨a.s.st.map embX, embM a.s.last⟩, ⟨emb_ok a.ok.st, emb_det a.ok.last⟩⟩, ?_, by show (a.s.st.map embX).length = _; rw [List.length_map]; rfl⟩
  have e1 : bsL (a.s.st.map embX) = bsL a.s.st := by
    unfold bsL fw
    rw [← List.map_reverse, List.map_map]
    rfl
  have e2 : tsA (a.s.st.map embX) = tsA a.s.st := by
    unfold tsA fw
    rw [← List.map_reverse, List.map_map]
    refine List.map_congr_left fun x _ => ?_
    obtain ⟨b, t⟩ := x
    cases t <;> rfl
  show PyData.tuple [.int (s0 (a.s.st.map embX)), .tuple (bsL (a.s.st.map embX)), .tuple (dI (tsL (a.s.st.map embX))), mD (embM a.s.last)] = _
  unfold s0 tsL
  rw [e1, e2]
  rfl
def body21 : CB := (.cons (.asg (.nm 4) (.call "_law_draw" (.cons (.lend 1) (.cons (.con (.int 5)) .nil)) [])) (.cons (.asg (.nm 5) (.ite (.cmp .lt (.var 4) (.con (.int 3))) (.call "_law_short" (.cons (.lend 1) (.cons (.var 2) (.cons (.var 4) (.cons (.con (.int 3)) .nil)))) []) (.call "_law_step" (.cons (.lend 1) (.cons (.var 2) (.cons (.call "_law_pick" (.cons (.lend 1) (.cons (.tup (.cons (.con (.int 2)) (.cons (.con (.int 1)) (.cons (.con (.int 3)) (.cons (.con (.int 0)) (.cons (.con (.int 4)) .nil)))))) .nil)) []) .nil))) []))) (.cons (.par [(6, false), (7, false)] (.cons (.call "_law_step" (.cons (.lend 1) (.cons (.var 2) (.cons (.call "_law_draw" (.cons (.lend 1) (.cons (.con (.int 3)) .nil)) []) .nil))) []) (.cons (.call "_law_change" (.cons (.lend 1) (.cons (.var 2) (.cons (.var 5) .nil))) []) .nil))) (.cons (.asg (.nm 8) (.call "_law_step" (.cons (.lend 1) (.cons (.var 2) (.cons (.call "_law_draw" (.cons (.lend 1) (.cons (.con (.int 2)) .nil)) []) .nil))) [])) (.cons (.par [(9, false), (10, false)] (.cons (.call "seen" (.cons (.var 2) (.cons (.var 5) (.cons (.var 7) .nil))) []) (.cons (.call "_law_row" (.cons (.var 7) .nil) []) .nil))) (.cons (.ifs (.not (.call "_law_same" (.cons (.lst (.cons (.var 9) (.cons (.call "seen" (.cons (.var 7) (.cons (.var 5) (.cons (.var 2) .nil))) ["change", "step", "q"]) .nil))) (.cons (.bin .mul (.lst (.cons (.call "_law_seen" (.cons (.var 2) (.cons (.var 5) (.cons (.var 7) .nil))) []) .nil)) (.con (.int 2))) .nil)) [])) (.cons (.ret (.con (.bl false))) .nil) .nil) (.cons (.asg (.nm 11) (.call "_law_made" (.cons (.var 2) (.cons (.call "_law_back" (.cons (.var 2) (.cons (.var 10) .nil)) []) .nil)) [])) (.cons (.ifs (.not (.call "_law_same" (.cons (.lst (.cons (.call "seen" (.cons (.var 2) (.cons (.var 9) (.cons (.var 11) .nil))) []) (.cons (.call "undoing" (.cons (.var 2) (.cons (.var 7) .nil)) []) .nil))) (.cons (.lst (.cons (.var 5) (.cons (.var 11) .nil))) .nil)) [])) (.cons (.ret (.con (.bl false))) .nil) .nil) (.cons (.ifs (.not (.call "_law_same" (.cons (.lst (.cons (.call "seen" (.cons (.var 2) (.cons (.var 5) (.cons (.var 5) .nil))) []) (.cons (.call "seen" (.cons (.var 2) (.cons (.var 5) (.cons (.call "nothing" .nil []) .nil))) []) (.cons (.call "seen" (.cons (.var 2) (.cons (.call "nothing" .nil []) (.cons (.var 7) .nil))) []) .nil)))) (.cons (.lst (.cons (.var 5) (.cons (.var 5) (.cons (.call "nothing" .nil []) .nil)))) .nil)) [])) (.cons (.ret (.con (.bl false))) .nil) .nil) (.cons (.asg (.nm 12) (.call "_law_made" (.cons (.var 2) (.cons (.bin .add (.var 10) (.call "_law_row" (.cons (.var 8) .nil) [])) .nil)) [])) (.cons (.ifs (.and (.cmp .lt (.blt .len (.cons (.idx (.var 9) (.con (.int 1))) .nil)) (.con (.int 9))) (.not (.call "_law_same" (.cons (.lst (.cons (.call "seen" (.cons (.var 2) (.cons (.var 9) (.cons (.var 8) .nil))) []) (.cons (.call "seen" (.cons (.var 2) (.cons (.var 5) (.cons (.var 12) .nil))) []) .nil))) (.cons (.bin .mul (.lst (.cons (.call "_law_seen" (.cons (.var 2) (.cons (.var 9) (.cons (.var 8) .nil))) []) .nil)) (.con (.int 2))) .nil)) []))) (.cons (.ret (.con (.bl false))) .nil) .nil) (.cons (.ifs (.not (.call "_law_same" (.cons (.call "seen" (.cons (.var 2) (.cons (.call "undoing" (.cons (.var 2) (.cons (.var 5) .nil)) []) (.cons (.var 7) .nil))) []) (.cons (.call "undoing" (.cons (.var 2) (.cons (.var 9) .nil)) []) .nil)) [])) (.cons (.ret (.con (.bl false))) .nil) .nil) (.cons (.asg (.nm 13) (.call "seen" (.cons (.var 2) (.cons (.var 6) (.cons (.var 7) .nil))) [])) (.cons (.ifs (.and (.cmp .lt (.blt .len (.cons (.idx (.var 13) (.con (.int 1))) .nil)) (.con (.int 13))) (.not (.call "_law_same" (.cons (.call "product" (.cons (.var 2) (.cons (.var 9) (.cons (.var 13) .nil))) []) (.cons (.call "seen" (.cons (.var 2) (.cons (.call "product" (.cons (.var 2) (.cons (.var 5) (.cons (.var 6) .nil))) []) (.cons (.var 7) .nil))) []) .nil)) []))) (.cons (.ret (.con (.bl false))) .nil) .nil) .nil))))))))))))))
structure K21 (P : Prg) : Prop where
  k : Kin P
  h : LwH P
  law : P.Has "law" f_law
theorem g_nothingE {q : Int} [FldI q] (K : Kin P) {n : Nat} {Q : RV → List Sl → Prop} (h : Q (.val (gD (G.nil : GE q))) []) : CW (cfg P (n + 1)) "nothing" [] [] Q := g_nothing K h
theorem fine2 {q : Int} [FldI q] {l : List (GE q)} (h : ∀ a ∈ l, gL a ≤ 3000) (hl : l.length ≤ 3) : Fine 4 1692078 (.list (l.map gD)) := by
  refine (fine_list (n := 3) (L := 564023) (m := 3) (fun d hd => ?_) (by rw [List.length_map]; exact hl)).more (by omega) (by omega)
  obtain ⟨a, ha, rfl⟩ := List.mem_map.mp hd
  exact fine_step a (h a ha)
theorem turn21 (H : K21 P) {ns : List Int} {q : Int} [hq : FldI q] {n : Nat} {o : O} (ho : Deck o) {x3 x4 x5 x6 x7 x8 x9 x10 x11 x12 x13 : Option Sl} {Q : Fl → Ev → Prop}
    (h : ∀ o x4 x5 x6 x7 x8 x9 x10 x11 x12 x13, Deck o → Q .next [some (.val (.list (dI ns))), some (.own o), some (.val (.int q)), x3, x4, x5, x6, x7, x8, x9, x10, x11, x12, x13, none]) :
    WB (cfg P (n + 10)) body21 [some (.val (.list (dI ns))), some (.own o), some (.val (.int q)), x3, x4, x5, x6, x7, x8, x9, x10, x11, x12, x13, none] Q := by
  unfold body21
  refine WB_cut (fun e => ∃ o w, Deck o ∧ e = [some (.val (.list (dI ns))), some (.own o), some (.val (.int q)), x3, some (.val (.int w)), x5, x6, x7, x8, x9, x10, x11, x12, x13, none]) ?_ ?_
  · subst_eqs
    refine draw_spec (n := n + 9) (m := 5) H.h.g.draw ho (by omega) (by omega) fun o w ho hw => ?_
    subst_eqs
    exact ⟨o, w, ho, rfl⟩
  rintro _ ⟨o, w, ho, rfl⟩
  refine WB_cut (fun e => ∃ o a, Deck o ∧ gL (a : GE q) ≤ 100 ∧ e = [some (.val (.list (dI ns))), some (.own o), some (.val (.int q)), x3, some (.val (.int w)), some (.val (gD (a : GE q))), x6, x7, x8, x9, x10, x11, x12, x13, none]) ?_ ?_
  · subst_eqs
    refine ⟨fun _ => ?_, fun _ => ?_⟩
    · refine short_spec (n := n + 5) H.h ho (by omega) (by omega) fun o s ho hs hl => ?_
      subst_eqs
      exact ⟨o, ⟨s, hs⟩, ho, hl, rfl⟩
    · refine pickT_spec (n := n + 8) (l := [PyData.int 2, .int 1, .int 3, .int 0, .int 4]) H.h.g.draw H.h.g.pick ho (by simp) (by simp) fun o x ho hx => ?_
      have hx2 : ∃ z : Int, 0 ≤ z ∧ z ≤ 4 ∧ x = .int z := by
        simp only [List.mem_cons, List.not_mem_nil, or_false] at hx
        rcases hx with rfl | rfl | rfl | rfl | rfl <;> exact ⟨_, by decide, by decide, rfl⟩
      obtain ⟨z, z0, z1, rfl⟩ := hx2
      subst_eqs
      refine gstep_spec (n := n + 6) H.h.g ho z0 (by omega) fun o s ho hs hl => ?_
      subst_eqs
      exact ⟨o, ⟨s, hs⟩, ho, by show s.st.length ≤ 100; omega, rfl⟩
  rintro _ ⟨o, a, ho, al, rfl⟩
  refine WB_cut (fun e => ∃ o b c, Deck o ∧ gL (b : GE q) ≤ 100 ∧ gL (c : GE q) ≤ 100 ∧ e = [some (.val (.list (dI ns))), some (.own o), some (.val (.int q)), x3, some (.val (.int w)), some (.val (gD a)), some (.val (gD (b : GE q))), some (.val (gD (c : GE q))), x8, x9, x10, x11, x12, x13, none]) ?_ ?_
  · subst_eqs
    refine draw_spec (n := n + 9) (m := 3) H.h.g.draw ho (by omega) (by omega) fun o r ho hr => ?_
    obtain ⟨r0, r1⟩ := hr
    subst_eqs
    refine gstep_spec (n := n + 6) H.h.g ho r0 (by omega) fun o s ho hs hl => ?_
    subst_eqs
    refine change_spec (n := n + 4) H.h ho a.ok (by unfold gL at al; omega) fun o c ho hc cl => ?_
    subst_eqs
    exact ⟨o, ⟨s, hs⟩, ⟨c, hc⟩, ho, by show s.st.length ≤ 100; omega, cl, rfl⟩
  rintro _ ⟨o, b, c, ho, bl, cl, rfl⟩
  refine WB_cut (fun e => ∃ o l, Deck o ∧ gL (l : GE q) ≤ 100 ∧ e = [some (.val (.list (dI ns))), some (.own o), some (.val (.int q)), x3, some (.val (.int w)), some (.val (gD a)), some (.val (gD b)), some (.val (gD c)), some (.val (gD (l : GE q))), x9, x10, x11, x12, x13, none]) ?_ ?_
  · subst_eqs
    refine draw_spec (n := n + 9) (m := 2) H.h.g.draw ho (by omega) (by omega) fun o r ho hr => ?_
    obtain ⟨r0, r1⟩ := hr
    subst_eqs
    refine gstep_spec (n := n + 6) H.h.g ho r0 (by omega) fun o s ho hs hl => ?_
    subst_eqs
    exact ⟨o, ⟨s, hs⟩, ho, by show s.st.length ≤ 100; omega, rfl⟩
  rintro _ ⟨o, l, ho, ll, rfl⟩
  refine WB_cut (fun e => e = [some (.val (.list (dI ns))), some (.own o), some (.val (.int q)), x3, some (.val (.int w)), some (.val (gD a)), some (.val (gD b)), some (.val (gD c)), some (.val (gD l)), some (.val (gD (a.seen c))), some (.val (.list (rowD (row c.s)))), x11, x12, x13, none]) ?_ ?_
  · subst_eqs
    refine g_seen H.k a c (by omega) (by omega) ?_
    subst_eqs
    refine row_spec (n := n + 9) H.h.g.s c.ok (by unfold gL at cl; omega) ?_
    subst_eqs
  rintro _ rfl
  have tl := seen_len a c
  refine WB_cut (fun e => e = [some (.val (.list (dI ns))), some (.own o), some (.val (.int q)), x3, some (.val (.int w)), some (.val (gD a)), some (.val (gD b)), some (.val (gD c)), some (.val (gD l)), some (.val (gD (a.seen c))), some (.val (.list (rowD (row c.s)))), x11, x12, x13, none]) ?_ ?_
  · subst_eqs
    refine CW_kw H.k.seen rfl rfl rfl ?_
    refine g_seen H.k a c (by omega) (by omega) ?_
    subst_eqs
    refine g_lseen (n := n + 4) H.h a c (by omega) (by omega) ?_
    subst_eqs
    refine ⟨by omega, ?_⟩
    refine lsame_spec (n := n + 9) H.h rfl (fine2 (l := [a.seen c, a.seen c]) (fun z hz => ?_) (by simp)) (by omega) (by omega) ?_
    · simp only [List.mem_cons, List.not_mem_nil, or_false, or_self] at hz
      subst hz
      omega
    subst_eqs
  rintro _ rfl
  refine WB_cut (fun e => e = [some (.val (.list (dI ns))), some (.own o), some (.val (.int q)), x3, some (.val (.int w)), some (.val (gD a)), some (.val (gD b)), some (.val (gD c)), some (.val (gD l)), some (.val (gD (a.seen c))), some (.val (.list (rowD (row c.s)))), some (.val (gD c.inv)), x12, x13, none]) ?_ ?_
  · have rc := row_len c.s
    unfold gL at cl
    have bl2 : (bk (row c.s)).length = (row c.s).length := by simp [bk]
    subst_eqs
    refine lback_spec (n := n + 6) H.h.g.s (row_ok c.ok) (by omega) ?_
    subst_eqs
    refine made_spec (n := n + 5) H.h.g.s (bk_ok (row_ok c.ok)) (by omega) ?_
    subst_eqs
    rfl
  rintro _ rfl
  have il := inv_len c
  have e1 := seen_back a c
  have sl := seen_len (a.seen c) c.inv
  refine WB_cut (fun e => e = [some (.val (.list (dI ns))), some (.own o), some (.val (.int q)), x3, some (.val (.int w)), some (.val (gD a)), some (.val (gD b)), some (.val (gD c)), some (.val (gD l)), some (.val (gD (a.seen c))), some (.val (.list (rowD (row c.s)))), some (.val (gD c.inv)), x12, x13, none]) ?_ ?_
  · subst_eqs
    refine g_seen H.k (a.seen c) c.inv (by omega) (by omega) ?_
    subst_eqs
    refine g_undoing (n := n + 1) H.k c (by omega) ?_
    subst_eqs
    refine lsame_spec (n := n + 9) H.h (by rw [e1]; rfl) (fine2 (l := [(a.seen c).seen c.inv, c.inv]) (fun z hz => ?_) (by simp)) (by omega) (by omega) ?_
    · simp only [List.mem_cons, List.not_mem_nil, or_false] at hz
      rcases hz with rfl | rfl <;> omega
    subst_eqs
  rintro _ rfl
  have nl : gL (G.nil : GE q) = 0 := rfl
  have s1 := seen_len a a
  have s2 := seen_len a (G.nil : GE q)
  have s3 := seen_len (G.nil : GE q) c
  refine WB_cut (fun e => e = [some (.val (.list (dI ns))), some (.own o), some (.val (.int q)), x3, some (.val (.int w)), some (.val (gD a)), some (.val (gD b)), some (.val (gD c)), some (.val (gD l)), some (.val (gD (a.seen c))), some (.val (.list (rowD (row c.s)))), some (.val (gD c.inv)), x12, x13, none]) ?_ ?_
  · subst_eqs
    refine g_seen H.k a a (by omega) (by omega) ?_
    subst_eqs
    refine g_nothingE (q := q) (n := n + 9) H.k ?_
    subst_eqs
    refine g_seen H.k a G.nil (by omega) (by omega) ?_
    subst_eqs
    refine g_nothingE (q := q) (n := n + 9) H.k ?_
    subst_eqs
    refine g_seen H.k G.nil c (by omega) (by omega) ?_
    subst_eqs
    refine g_nothingE (q := q) (n := n + 9) H.k ?_
    subst_eqs
    refine lsame_spec (n := n + 9) H.h (by rw [seen_self, seen_nil, nil_seen]; rfl) (fine2 (l := [a.seen a, a.seen G.nil, (G.nil : GE q).seen c]) (fun z hz => ?_) (by simp)) (by omega) (by omega) ?_
    · simp only [List.mem_cons, List.not_mem_nil, or_false] at hz
      rcases hz with rfl | rfl | rfl <;> omega
    subst_eqs
  rintro _ rfl
  have ml := mul_len c l
  refine WB_cut (fun e => e = [some (.val (.list (dI ns))), some (.own o), some (.val (.int q)), x3, some (.val (.int w)), some (.val (gD a)), some (.val (gD b)), some (.val (gD c)), some (.val (gD l)), some (.val (gD (a.seen c))), some (.val (.list (rowD (row c.s)))), some (.val (gD c.inv)), some (.val (gD (c.mul l))), x13, none]) ?_ ?_
  · have rc := row_len c.s
    have rl := row_len l.s
    unfold gL at cl ll
    have e2 : rowD (row c.s) ++ rowD (row l.s) = rowD (row c.s ++ row l.s) := rowD_app.symm
    have e3 : stepD (mk (row c.s ++ row l.s)) = gD (c.mul l) := by
      show stepD (acts ST.nil (row c.s ++ row l.s)) = stepD (acts c.s (row l.s))
      rw [acts_app, show acts ST.nil (row c.s) = mk (row c.s) from rfl, mk_row c.ok]
    subst_eqs
    refine row_spec (n := n + 9) H.h.g.s l.ok (by omega) ?_
    dsimp! [e2, rowD_len]
    refine ⟨by omega, ?_⟩
    refine made_spec (n := n + 5) H.h.g.s ((row_ok c.ok).app (row_ok l.ok)) (by rw [List.length_append]; omega) ?_
    dsimp! [e3]
  rintro _ rfl
  have v1 := seen_len (a.seen c) l
  have v2 := seen_len a (c.mul l)
  have e4 := seen_mul a c l
  have idD : ∀ g : GE q, idxD (gD g) (.int 1) = some (.tuple (bsL g.s.st)) := fun g => rfl
  refine WB_cut (fun e => e = [some (.val (.list (dI ns))), some (.own o), some (.val (.int q)), x3, some (.val (.int w)), some (.val (gD a)), some (.val (gD b)), some (.val (gD c)), some (.val (gD l)), some (.val (gD (a.seen c))), some (.val (.list (rowD (row c.s)))), some (.val (gD c.inv)), some (.val (gD (c.mul l))), x13, none]) ?_ ?_
  · dsimp! [idD (a.seen c)]
    refine fun _ => ?_
    refine g_seen H.k (a.seen c) l (by omega) (by omega) ?_
    subst_eqs
    refine g_seen H.k a (c.mul l) (by omega) (by omega) ?_
    subst_eqs
    refine g_lseen (n := n + 4) H.h (a.seen c) l (by omega) (by omega) ?_
    subst_eqs
    refine ⟨by omega, ?_⟩
    refine lsame_spec (n := n + 9) H.h (by rw [← e4]; rfl) (fine2 (l := [(a.seen c).seen l, a.seen (c.mul l)]) (fun z hz => ?_) (by simp)) (by omega) (by omega) ?_
    · simp only [List.mem_cons, List.not_mem_nil, or_false] at hz
      rcases hz with rfl | rfl <;> omega
    subst_eqs
  rintro _ rfl
  have i1 := inv_len a
  have v3 := seen_len a.inv c
  have i2 := inv_len (a.seen c)
  have e5 := inv_seen a c
  refine WB_cut (fun e => e = [some (.val (.list (dI ns))), some (.own o), some (.val (.int q)), x3, some (.val (.int w)), some (.val (gD a)), some (.val (gD b)), some (.val (gD c)), some (.val (gD l)), some (.val (gD (a.seen c))), some (.val (.list (rowD (row c.s)))), some (.val (gD c.inv)), some (.val (gD (c.mul l))), x13, none]) ?_ ?_
  · subst_eqs
    refine g_undoing (n := n + 1) H.k a (by omega) ?_
    subst_eqs
    refine g_seen H.k a.inv c (by omega) (by omega) ?_
    subst_eqs
    refine g_undoing (n := n + 1) H.k (a.seen c) (by omega) ?_
    subst_eqs
    refine lsame_spec (n := n + 9) H.h (by rw [e5]) (fine_step (a.inv.seen c) (by omega)) (by omega) (by omega) ?_
    subst_eqs
  rintro _ rfl
  have v4 := seen_len b c
  refine WB_cut (fun e => e = [some (.val (.list (dI ns))), some (.own o), some (.val (.int q)), x3, some (.val (.int w)), some (.val (gD a)), some (.val (gD b)), some (.val (gD c)), some (.val (gD l)), some (.val (gD (a.seen c))), some (.val (.list (rowD (row c.s)))), some (.val (gD c.inv)), some (.val (gD (c.mul l))), some (.val (gD (b.seen c))), none]) ?_ ?_
  · subst_eqs
    refine g_seen H.k b c (by omega) (by omega) ?_
    subst_eqs
  rintro _ rfl
  have m1 := mul_len (a.seen c) (b.seen c)
  have m2 := mul_len a b
  have v5 := seen_len (a.mul b) c
  have e6 := mul_seen a b c
  dsimp! [idD (b.seen c)]
  refine ⟨fun _ => ?_, fun _ => h _ _ _ _ _ _ _ _ _ _ _ ho⟩
  refine g_product (n := n + 1) H.k (a.seen c) (b.seen c) (by omega) (by omega) ?_
  subst_eqs
  refine g_product (n := n + 1) H.k a b (by omega) (by omega) ?_
  subst_eqs
  refine g_seen H.k (a.mul b) c (by omega) (by omega) ?_
  subst_eqs
  refine lsame_spec (n := n + 9) H.h (by rw [e6]) (fine_step ((a.seen c).mul (b.seen c)) (by omega)) (by omega) (by omega) ?_
  subst_eqs
  exact h _ _ _ _ _ _ _ _ _ _ _ ho
theorem one21 (H : K21 P) {q : Int} [hq : FldI q] {a c : GE q} (al : gL a ≤ 100) (cl : gL c ≤ 100) {d1 d2 : D} (e1 : gD a = d1) (e2 : gD c = d2) {n : Nat} :
    ∃ r, Fine 3 564023 r ∧ (∀ {Q : RV → List Sl → Prop}, Q (.val r) [.val (.int q), .val d1, .val d2] → CW (cfg P (n + 10)) "seen" [] [.val (.int q), .val d1, .val d2] Q) ∧ ∀ {Q : RV → List Sl → Prop}, Q (.val r) [.val (.int q), .val d1, .val d2] → CW (cfg P (n + 10)) "_law_seen" [] [.val (.int q), .val d1, .val d2] Q := by
  subst e1 e2
  have := seen_len a c
  exact ⟨gD (a.seen c), fine_step _ (by omega), fun h => g_seen H.k a c (by omega) (by omega) h, fun h => g_lseen (n := n + 4) H.h a c (by omega) (by omega) h⟩
theorem law21 (H : K21 P) (ns : List Int) {n : Nat} {Q : RV → List Sl → Prop}
    (h : Q (.val (.bool true)) [.val (.list (dI ns))]) : CW (cfg P (n + 11)) "law" [] [.val (.list (dI ns))] Q := by
  refine CW_pos H.law rfl ?_
  show WB (cfg P (n + 10)) f_law.body [some (.val (.list (dI ns))), none, none, none, none, none, none, none, none, none, none, none, none, none, none] _
  unfold f_law
  refine WB_cut (fun e => ∃ o, Deck o ∧ e = [some (.val (.list (dI ns))), some (.own o), none, none, none, none, none, none, none, none, none, none, none, none, none]) ?_ ?_
  · subst_eqs
    refine deck_spec (n := n + 9) H.h.g.deck fun o ho => ?_
    subst_eqs
    exact ⟨o, ho, rfl⟩
  rintro _ ⟨o, ho, rfl⟩
  refine WB_cut (fun e => ∃ o q, Deck o ∧ Fld q ∧ e = [some (.val (.list (dI ns))), some (.own o), some (.val (.int q)), none, none, none, none, none, none, none, none, none, none, none, none]) ?_ ?_
  · subst_eqs
    refine field_spec (n := n + 7) H.h.g ho fun o q ho hq => ?_
    subst_eqs
    exact ⟨o, q, ho, hq, rfl⟩
  rintro _ ⟨o, q, ho, hf, rfl⟩
  haveI hq : FldI q := ⟨hf⟩
  refine WB_cut (fun e => ∃ o x3 x4 x5 x6 x7 x8 x9 x10 x11 x12 x13, Deck o ∧ e = [some (.val (.list (dI ns))), some (.own o), some (.val (.int q)), x3, x4, x5, x6, x7, x8, x9, x10, x11, x12, x13, none]) ?_ ?_
  · dsimp! [show rngOk 0 2 = true from rfl]
    refine FoW_tab (fun i e => ∃ o x3 x4 x5 x6 x7 x8 x9 x10 x11 x12 x13, Deck o ∧ e = [some (.val (.list (dI ns))), some (.own o), some (.val (.int q)), x3, x4, x5, x6, x7, x8, x9, x10, x11, x12, x13, none]) ⟨_, _, _, _, _, _, _, _, _, _, _, _, ho, rfl⟩ ?_ ?_
    · rintro i e i0 i1 ⟨o, x3, x4, x5, x6, x7, x8, x9, x10, x11, x12, x13, ho, rfl⟩
      refine ⟨_, rfl, ?_⟩
      exact turn21 H ho fun o x4 x5 x6 x7 x8 x9 x10 x11 x12 x13 ho => ⟨_, _, _, _, _, _, _, _, _, _, _, _, ho, rfl⟩
    · rintro i e hi ⟨o, x3, x4, x5, x6, x7, x8, x9, x10, x11, x12, x13, ho, rfl⟩
      exact ⟨_, _, _, _, _, _, _, _, _, _, _, _, ho, rfl⟩
  rintro _ ⟨o, x3, x4, x5, x6, x7, x8, x9, x10, x11, x12, x13, ho, rfl⟩
  refine WB_cut (fun e => ∃ o a c, Deck o ∧ gL (a : GE 2) ≤ 100 ∧ gL (c : GE 2) ≤ 100 ∧ e = [some (.val (.list (dI ns))), some (.own o), some (.val (.int q)), x3, x4, some (.val (gD a)), x6, some (.val (gD c)), x8, x9, x10, x11, x12, x13, none]) ?_ ?_
  · subst_eqs
    refine draw_spec (n := n + 9) (m := 3) H.h.g.draw ho (by omega) (by omega) fun o r ho hr => ?_
    obtain ⟨r0, r1⟩ := hr
    subst_eqs
    refine gstep_spec (q := 2) (n := n + 6) H.h.g ho r0 (by omega) fun o s ho hs hl => ?_
    subst_eqs
    refine draw_spec (n := n + 9) (m := 3) H.h.g.draw ho (by omega) (by omega) fun o r2 ho hr => ?_
    obtain ⟨r3, r4⟩ := hr
    subst_eqs
    refine gstep_spec (q := 2) (n := n + 6) H.h.g ho r3 (by omega) fun o t ho ht hl2 => ?_
    subst_eqs
    exact ⟨o, ⟨s, hs⟩, ⟨t, ht⟩, ho, by show s.st.length ≤ 100; omega, by show t.st.length ≤ 100; omega, rfl⟩
  rintro _ ⟨o, a, c, ho, al, cl, rfl⟩
  refine WB_cut (fun e => ∃ x14, e = [some (.val (.list (dI ns))), some (.own o), some (.val (.int q)), x3, x4, some (.val (gD a)), x6, some (.val (gD c)), x8, x9, x10, x11, x12, x13, x14]) ?_ ?_
  · subst_eqs
    refine FoW_inv (fun i e => ∃ x14, e = [some (.val (.list (dI ns))), some (.own o), some (.val (.int q)), x3, x4, some (.val (gD a)), x6, some (.val (gD c)), x8, x9, x10, x11, x12, x13, x14]) ⟨_, rfl⟩ ?_ ?_
    · rintro i x e hx ⟨x14, rfl⟩
      have hx2 := List.mem_of_getElem? hx
      have key : ∃ f r, x = .int f ∧ Fine 3 564023 r ∧ (∀ {Q : RV → List Sl → Prop}, Q (.val r) [.val (.int f), .val (gD a), .val (gD c)] → CW (cfg P (n + 10)) "seen" [] [.val (.int f), .val (gD a), .val (gD c)] Q) ∧ ∀ {Q : RV → List Sl → Prop}, Q (.val r) [.val (.int f), .val (gD a), .val (gD c)] → CW (cfg P (n + 10)) "_law_seen" [] [.val (.int f), .val (gD a), .val (gD c)] Q := by
        simp only [List.mem_cons, List.not_mem_nil, or_false] at hx2
        rcases hx2 with rfl | rfl | rfl
        · obtain ⟨r, u⟩ := one21 H al cl (n := n) (rfl : gD a = _) (rfl : gD c = _)
          exact ⟨2, r, rfl, u⟩
        · obtain ⟨a3, a4, a5⟩ := two_three a
          obtain ⟨c3, c4, c5⟩ := two_three c
          obtain ⟨r, u⟩ := one21 H (by rw [a5]; exact al) (by rw [c5]; exact cl) (n := n) a4 c4
          exact ⟨3, r, rfl, u⟩
        · obtain ⟨r, u⟩ := one21 H al cl (n := n) (rfl : gD a = _) (rfl : gD c = _)
          exact ⟨2, r, rfl, u⟩
      obtain ⟨f, r, rfl, fr, u1, u2⟩ := key
      subst_eqs
      refine u1 ?_
      subst_eqs
      refine u2 ?_
      subst_eqs
      refine lsame_spec (n := n + 9) H.h rfl fr (by omega) (by omega) ?_
      subst_eqs
      exact ⟨_, rfl⟩
    · rintro e ⟨x14, rfl⟩
      subst_eqs
      exact ⟨_, rfl⟩
  rintro _ ⟨x14, rfl⟩
  refine WB_cut (fun e => ∃ o y5 y7, e = [some (.val (.list (dI ns))), some (.own o), some (.val (.int q)), x3, x4, y5, x6, y7, x8, x9, x10, x11, x12, x13, x14]) ?_ ?_
  · subst_eqs
    refine draw_spec (n := n + 9) (m := 8) H.h.g.draw ho (by omega) (by omega) fun o r ho hr => ?_
    subst_eqs
    refine ⟨fun _ => ?_, fun _ => ⟨_, _, _, rfl⟩⟩
    refine gstep_spec (q := q) (n := n + 6) H.h.g ho (k := 12) (by omega) (by omega) fun o s ho hs hl => ?_
    subst_eqs
    refine draw_spec (n := n + 9) (m := 4) H.h.g.draw ho (by omega) (by omega) fun o r2 ho hr => ?_
    obtain ⟨r3, r4⟩ := hr
    subst_eqs
    refine gstep_spec (q := q) (n := n + 6) H.h.g ho (k := 9 + r2) (by omega) (by omega) fun o t ho ht hl2 => ?_
    subst_eqs
    have sl : s.st.length ≤ 100 := by omega
    have tl : t.st.length ≤ 100 := by omega
    refine g_seen H.k ⟨s, hs⟩ ⟨t, ht⟩ (Nat.le_trans sl (by omega)) (Nat.le_trans tl (by omega)) ?_
    subst_eqs
    refine g_lseen (n := n + 4) H.h ⟨s, hs⟩ ⟨t, ht⟩ (Nat.le_trans sl (by omega)) (Nat.le_trans tl (by omega)) ?_
    subst_eqs
    have v := seen_len (⟨s, hs⟩ : GE q) ⟨t, ht⟩
    have sl2 : gL (⟨s, hs⟩ : GE q) ≤ 100 := sl
    have tl2 : gL (⟨t, ht⟩ : GE q) ≤ 100 := tl
    refine lsame_spec (n := n + 9) H.h rfl (fine_step _ (by omega)) (by omega) (by omega) ?_
    subst_eqs
    exact ⟨_, _, _, rfl⟩
  rintro _ ⟨o, y5, y7, rfl⟩
  subst_eqs
  refine g_nothing (n := n + 9) H.k ?_
  subst_eqs
  have fn : Fine 3 564023 cNOTHING := fine_step (G.nil : GE 2) (Nat.zero_le _)
  refine lsame_spec (n := n + 9) H.h (a := cNOTHING) rfl fn (by omega) (by omega) ?_
  subst_eqs
  exact h
end
end EV
set_option Elab.async false
set_option linter.all false
set_option maxRecDepth 100000
set_option maxHeartbeats 0
/-! the head of the law (printed by an own tool). -/
open PySem PySem.Spec PyProof.Rows L2
namespace EV
namespace LawHead
def hs : List Hint := [
  ⟨"is_integer", ["thing"], [], []⟩,
  ⟨"is_number", ["q", "thing"], [], []⟩,
  ⟨"plus", ["q", "a", "b"], [], []⟩,
  ⟨"opposite", ["q", "a"], [], []⟩,
  ⟨"minus", ["q", "a", "b"], [], []⟩,
  ⟨"times", ["q", "a", "b", "powers"], [], []⟩,
  ⟨"power", ["q", "a", "exponent", "found", "base", "left"], [], []⟩,
  ⟨"inverse", ["q", "a"], [], []⟩,
  ⟨"are_numbers", ["q", "thing", "part"], [], []⟩,
  ⟨"trimmed", ["numbers", "size"], [], []⟩,
  ⟨"is_one_letter", ["q", "thing"], [], []⟩,
  ⟨"one_plus", ["q", "f", "g", "size", "one", "other", "a", "b"], [], []⟩,
  ⟨"one_opposite", ["q", "f", "a"], [], []⟩,
  ⟨"one_scaled", ["q", "f", "number", "a"], [], []⟩,
  ⟨"one_times", ["q", "f", "g", "found", "i", "a", "j", "b"], ["found"], []⟩,
  ⟨"one_put", ["q", "f", "g", "found", "a"], [], []⟩,
  ⟨"map_determinant", ["q", "m"], [], []⟩,
  ⟨"is_straight", ["q", "thing"], [], []⟩,
  ⟨"is_bend", ["q", "thing"], [], []⟩,
  ⟨"turn_map", ["e"], [], []⟩,
  ⟨"sum_of_products", ["q", "a", "b", "c", "d"], [], []⟩,
  ⟨"straight_then", ["q", "one", "other", "a", "b", "c", "d", "e", "f", "found", "k", "m", "n"], [], []⟩,
  ⟨"straight_back", ["q", "m", "k", "a", "b", "d", "e", "c"], [], []⟩,
  ⟨"split_map", ["q", "m", "r"], [], []⟩,
  ⟨"bend_through", ["q", "m", "bend", "a", "b", "c", "d", "e", "f", "whole", "low", "found"], [], []⟩,
  ⟨"turned_map", ["q", "r", "m"], [], []⟩,
  ⟨"with_straight", ["q", "step", "m"], [], []⟩,
  ⟨"with_bend", ["q", "step", "bend", "start", "bends", "turns", "last", "r", "rest", "found"], [], []⟩,
  ⟨"with_pieces", ["q", "step", "row", "piece"], [], []⟩,
  ⟨"pieces_of", ["step", "start", "bends", "turns", "last", "found", "place", "bend"], ["found"], []⟩,
  ⟨"then", ["q", "one", "other"], [], []⟩,
  ⟨"back", ["q", "step", "row", "sort", "part"], ["row"], []⟩,
  ⟨"seen_by", ["q", "step", "change"], [], []⟩,
  ⟨"are_bends", ["q", "thing", "part"], [], []⟩,
  ⟨"are_turns", ["q", "thing", "many", "part"], [], []⟩,
  ⟨"is_start", ["q", "thing"], [], []⟩,
  ⟨"is_step_value", ["q", "thing"], [], []⟩,
  ⟨"check_step", ["q", "thing"], [], []⟩,
  ⟨"seen", ["q", "step", "change"], [], []⟩,
  ⟨"nothing", [], [], []⟩,
  ⟨"product", ["q", "one", "other"], [], []⟩,
  ⟨"undoing", ["q", "step"], [], []⟩,
  ⟨"_law_deck", ["_law_script", "_law_number", "_law_mixed", "_law_cell"], [], []⟩,
  ⟨"_law_draw", ["_law_deck_here", "_law_many", "_law_figure", "_law_cell"], ["_law_deck_here"], [0]⟩,
  ⟨"_law_pick", ["_law_deck_here", "_law_some"], ["_law_deck_here"], [0]⟩,
  ⟨"_law_field", ["_law_deck_here"], ["_law_deck_here"], [0]⟩,
  ⟨"_law_powers", ["_law_q"], [], []⟩,
  ⟨"_law_plus", ["_law_q", "_law_a", "_law_b"], [], []⟩,
  ⟨"_law_by", ["_law_q", "_law_a", "_law_b", "_law_powers_here"], [], []⟩,
  ⟨"_law_less", ["_law_q", "_law_a"], [], []⟩,
  ⟨"_law_under", ["_law_q", "_law_a", "_law_powers_here", "_law_b"], [], []⟩,
  ⟨"_law_cross", ["_law_q", "_law_a", "_law_b", "_law_d", "_law_e"], [], []⟩,
  ⟨"_law_then", ["_law_q", "_law_one", "_law_other", "_law_a", "_law_b", "_law_c", "_law_d", "_law_e", "_law_f", "_law_found", "_law_x", "_law_y", "_law_z"], ["_law_found"], []⟩,
  ⟨"_law_shifted", ["_law_q", "_law_bend_here", "_law_e", "_law_f", "_law_found", "_law_x", "_law_more", "_law_z", "_law_w"], ["_law_more"], []⟩,
  ⟨"_law_sum", ["_law_q", "_law_one", "_law_other", "_law_room", "_law_found", "_law_used", "_law_x", "_law_y", "_law_at"], [], []⟩,
  ⟨"_law_put", ["_law_q", "_law_step_here", "_law_piece", "_law_start", "_law_bends", "_law_turns", "_law_last", "_law_a", "_law_b", "_law_c", "_law_d", "_law_e", "_law_f", "_law_turn", "_law_found", "_law_part", "_law_bend_here", "_law_both_here", "_law_x"], [], []⟩,
  ⟨"_law_row", ["_law_step_here", "_law_start", "_law_bends", "_law_turns", "_law_last", "_law_found", "_law_turn", "_law_bend_here"], ["_law_found"], []⟩,
  ⟨"_law_back", ["_law_q", "_law_row_here", "_law_found", "_law_word", "_law_it", "_law_a", "_law_b", "_law_c", "_law_d", "_law_e", "_law_f", "_law_part", "_law_some", "_law_lost", "_law_x", "_law_y"], ["_law_found"], []⟩,
  ⟨"_law_made", ["_law_q", "_law_row_here", "_law_found", "_law_piece"], [], []⟩,
  ⟨"_law_seen", ["_law_q", "_law_step_here", "_law_change_here", "_law_row_here"], [], []⟩,
  ⟨"_law_map", ["_law_deck_here", "_law_q", "_law_way", "_law_number", "_law_a", "_law_b", "_law_k", "_law_u", "_law_c", "_law_f", "_law_d", "_law_e"], ["_law_deck_here"], [0]⟩,
  ⟨"_law_both", ["_law_deck_here", "_law_q", "_law_way", "_law_a", "_law_e", "_law_b", "_law_c", "_law_f"], ["_law_deck_here"], [0]⟩,
  ⟨"_law_bend", ["_law_deck_here", "_law_q", "_law_size", "_law_way", "_law_some", "_law_turn", "_law_at", "_law_x"], ["_law_deck_here"], [0]⟩,
  ⟨"_law_step", ["_law_deck_here", "_law_q", "_law_many", "_law_way", "_law_start", "_law_bends", "_law_turns", "_law_turn"], ["_law_deck_here"], [0]⟩,
  ⟨"_law_short", ["_law_deck_here", "_law_q", "_law_sort", "_law_most", "_law_some", "_law_near", "_law_turn"], ["_law_deck_here"], [0]⟩,
  ⟨"_law_change", ["_law_deck_here", "_law_q", "_law_core", "_law_way", "_law_many", "_law_step_here"], ["_law_deck_here"], [0]⟩,
  ⟨"_law_same", ["_law_told", "_law_due"], [], []⟩,
  ⟨"law", ["_law_script", "_law_deck_here", "_law_q", "_law_turn", "_law_sort", "_law_one", "_law_other", "_law_change_here", "_law_later", "_law_told", "_law_row_here", "_law_back_here", "_law_both_here", "_law_far", "_law_field_here"], ["_law_deck_here"], []⟩]
def tops : List Nat := [5, 6, 7, 8, 9, 10, 11, 12, 14, 15, 16, 17, 18, 19, 20, 21, 23, 24, 25, 29, 30, 31, 32, 33, 34, 35, 36, 37, 38, 39, 40, 41, 42, 43, 44, 45, 46, 47, 49, 51, 52, 53, 55, 56, 57, 58, 59, 60, 61, 62, 63, 64, 65, 66, 67, 68, 69, 70, 71, 72, 73, 74, 75, 76, 77, 78, 79, 80]
def glbs : List Str := ["POWERS", "IDENTITY", "NOTHING"]
def globs : List (Str × D) := [("POWERS", .dict [(.int 4, .tuple [.int 1, .int 2, .int 3]), (.int 8, .tuple [.int 1, .int 2, .int 4, .int 3, .int 6, .int 7, .int 5]), (.int 9, .tuple [.int 1, .int 3, .int 4, .int 7, .int 2, .int 6, .int 8, .int 5]), (.int 16, .tuple [.int 1, .int 2, .int 4, .int 8, .int 3, .int 6, .int 12, .int 11, .int 5, .int 10, .int 7, .int 14, .int 15, .int 13, .int 9])]), ("IDENTITY", .tuple [.int 1, .int 0, .int 0, .int 0, .int 1, .int 0]), ("NOTHING", .tuple [.int (-1), .tuple [], .tuple [], .tuple [.int 1, .int 0, .int 0, .int 0, .int 1, .int 0]])]

abbrev prog := PySem.Challenge.pw_bentplane_k21_steps_seen_by_changes_of_l
def top (i : Nat) : Stmt := prog.main.body.getD i (.Pass ⟨0, 0, 0, 0⟩)
def tsts : List Stmt := tops.map top
def cs : List Con := globs.map fun g => (g.1, g.2, [])
abbrev R : PySem.W.OpenRow := PySem.W.OpenLaw.row PySem.Challenge.rw_bentplane_k21_steps_seen_by_changes_of_l
abbrev hk : PySem.W.Hook := hookW 4 (fasOf hs cs) (dsOf hs tsts) cs
def ob (s : PySem.W.SharedT) : AlW := obsW 4 (fasOf hs cs) (dsOf hs tsts) cs (HandSHeadRun.getT s)
theorem ob_eq (s : PySem.W.SharedT) : ob s = hk.obs s.abs := obsW_eq (HandSHeadRun.getT_eq s)
def names : List PySem.Str := [("PlaneError" : PySem.Str), ("BadStep" : PySem.Str), ("is_integer" : PySem.Str), ("is_number" : PySem.Str), ("plus" : PySem.Str), ("opposite" : PySem.Str), ("minus" : PySem.Str), ("times" : PySem.Str), ("power" : PySem.Str), ("inverse" : PySem.Str), ("are_numbers" : PySem.Str), ("trimmed" : PySem.Str), ("is_one_letter" : PySem.Str), ("one_plus" : PySem.Str), ("one_opposite" : PySem.Str), ("one_scaled" : PySem.Str), ("one_times" : PySem.Str), ("one_put" : PySem.Str), ("map_determinant" : PySem.Str), ("is_straight" : PySem.Str), ("is_bend" : PySem.Str), ("turn_map" : PySem.Str), ("sum_of_products" : PySem.Str), ("straight_then" : PySem.Str), ("straight_back" : PySem.Str), ("split_map" : PySem.Str), ("bend_through" : PySem.Str), ("turned_map" : PySem.Str), ("with_straight" : PySem.Str), ("with_bend" : PySem.Str), ("with_pieces" : PySem.Str), ("pieces_of" : PySem.Str), ("then" : PySem.Str), ("back" : PySem.Str), ("seen_by" : PySem.Str), ("are_bends" : PySem.Str), ("are_turns" : PySem.Str), ("is_start" : PySem.Str), ("is_step_value" : PySem.Str), ("check_step" : PySem.Str), ("seen" : PySem.Str), ("nothing" : PySem.Str), ("product" : PySem.Str), ("undoing" : PySem.Str), ("_law_deck" : PySem.Str), ("_law_draw" : PySem.Str), ("_law_pick" : PySem.Str), ("_law_field" : PySem.Str), ("_law_powers" : PySem.Str), ("_law_plus" : PySem.Str), ("_law_by" : PySem.Str), ("_law_less" : PySem.Str), ("_law_under" : PySem.Str), ("_law_cross" : PySem.Str), ("_law_then" : PySem.Str), ("_law_shifted" : PySem.Str), ("_law_sum" : PySem.Str), ("_law_put" : PySem.Str), ("_law_row" : PySem.Str), ("_law_back" : PySem.Str), ("_law_made" : PySem.Str), ("_law_seen" : PySem.Str), ("_law_map" : PySem.Str), ("_law_both" : PySem.Str), ("_law_bend" : PySem.Str), ("_law_step" : PySem.Str), ("_law_short" : PySem.Str), ("_law_change" : PySem.Str), ("_law_same" : PySem.Str), ("POWERS" : PySem.Str), ("IDENTITY" : PySem.Str), ("NOTHING" : PySem.Str)]
theorem runF (w : World) : HandSHeadRun.RunEq R (PySem.W.view R.prog [80]) hk ob 4000 names (w.withFollow "special-get-raises" false) := by
  intro os
  kernel_rfl
theorem runT (w : World) : HandSHeadRun.RunEq R (PySem.W.view R.prog [80]) hk ob 4000 names (w.withFollow "special-get-raises" true) := by
  intro os
  kernel_rfl
theorem run (w : World) : HandSHeadRun.RunEq R (PySem.W.view R.prog [80]) hk ob 4000 names w := PySem.W.byRow2 "special-get-raises" runF runT w
theorem ok : okAll hs tsts cs = true := by decide +kernel
abbrev prg (wf : Nat) : Prg := prgOf hs (cs.map (·.1)) tsts (globOf cs) wf
end LawHead
open PySem.W PySem.Calls in
theorem of_answer {k wf : Nat} {fn : Fn} {x : Str} (hr : Room k callerA) (hf : (LawHead.prg wf).fns.lookup ("law" : Str) = some fn) (hp : fn.ps = [x])
    (A : ∀ ns : List Int, ns.length ≤ 63 → ∃ outs, run (LawHead.prg wf) k "law" [] [.val (.list (ns.map PyData.int))] = some (.val (.bool true), outs)) : PySem.Challenge.rw_bentplane_k21_steps_seen_by_changes_of_l.Holds := by
  w_on; o_law
  refine HandSHeadRun.head_any (r := OpenLaw.row PySem.Challenge.rw_bentplane_k21_steps_seen_by_changes_of_l) (q := view (OpenLaw.row PySem.Challenge.rw_bentplane_k21_steps_seen_by_changes_of_l).prog [80]) (H := LawHead.hk) (ob := LawHead.ob) (M := 4000) (loose := LawHead.names) (d := HandSHeadRun.topDef (OpenLaw.row PySem.Challenge.rw_bentplane_k21_steps_seen_by_changes_of_l).prog 80) (kwd := []) LawHead.ob_eq
    (by kernel_rfl) (fun s => by kernel_rfl) LawHead.run (by kernel_rfl) (by kernel_rfl) (by kernel_rfl) (by rfl) (by first | assumption | decide +kernel) (by decide +kernel) ⟨rfl, rfl, rfl, rfl, rfl, by decide +kernel⟩ ?hw ?hc
  case hw => w_witness2
  case hc => exact law_walk (l := PySem.Challenge.rw_bentplane_k21_steps_seen_by_changes_of_l) (n := 63) (k := k) (x := x) (lw := "law") rfl (by decide) (by kernel_rfl) hr LawHead.ok (by kernel_rfl) hf hp A
end EV

set_option Elab.async false
set_option linter.all false
set_option maxRecDepth 100000
set_option maxHeartbeats 400000
open PySem PySem.Spec PyProof.Rows L2
namespace EV
local macro_rules | `(tactic| subst_eqs) => `(tactic| simp -dsimp only [e10_64, OW_some, OW_none, OW_map, OW_bind, OW_ite, OW_guard, SlotV_some, look_val, look_own, MvV_val, MvV_own, W_var, W_mv, W_con, W_glo, W_bin, W_neg, W_not, W_cmp, W_chn, W_and, W_or, OrV_bool, AndV_bool, W_ite, W_tup, W_lst, W_dct, W_rng, W_idx, W_slc, W_rev, W_call, W_blt, W_mth, OwnV_some, W_mut, W_isi, W_lc, WL_nil, WL_cons, WA_nil, WA_lend, WA_c_var, WA_c_mv, WA_c_con, WA_c_glo, WA_c_bin, WA_c_neg, WA_c_not, WA_c_cmp, WA_c_chn, WA_c_and, WA_c_or, WA_c_ite, WA_c_tup, WA_c_lst, WA_c_dct, WA_c_rng, WA_c_idx, WA_c_slc, WA_c_rev, WA_c_call, WA_c_blt, WA_c_mth, WA_c_mut, WA_c_isi, WA_c_lc, WP_nil, WP_cons, WO_non, WO_som, WI_blt, WI_of, WB_nil, nextQ_next, nextQ_brk, nextQ_cnt, nextQ_ret, WB_cons, WS_asg, AsO_own, AsO_val, WS_asgO, WS_par, WS_put, WS_exp, WS_ret, RetO_own, RetO_val, WS_retO, WS_ifs, WS_whl, WS_fo, WS_brk, WS_cnt, WS_pas, sl_eq, Nat.zero_le, WS_augA, WS_augS, LtW_eq, Sl.val.injEq, wipeE, List.getD_cons_zero, List.getD_cons_succ, turnQ_next, turnQ_cnt, turnQ_brk, turnQ_ret, cfg_glob, cfg_wf, endQ_ret, endQ_next, Br_true, Br_false, Br_dec, Br_not,
  str_inj, view_val, view_own, view_brw, parts_val, parts_own, parts_brw_ofL, keep_val, keep_own, toO_val, toO_own, isBrw_val, isBrw_own, isBrw_brw, fz_imm, fz_ofL, fz_lst, fz_dct, fzk_nil, fzk_cons, kD_inl, kD_inr, dK_int, dK_str, keeps_nil, keeps_cons, partsL_nil, partsL_cons, truthD_none, truthD_bool, truthD_int, truthD_list, truthD_tuple, add_int, sub_int, mul_int, fdiv_int, mod_int, pow_int, bxor_int, band_int, bor_int, add_tup, add_lst, mul_lst, mul_tup, rep_one, eq_int, ne_int, lt_int, le_int, gt_int, ge_int, at_dct, ofO_imm, ofO_ofL, ofO_dct, idx_val, idx_own, idx_brw, idxD_list, idxD_tuple, at_ofL, slc_list, slc_tuple, rev_list, rev_tuple, len_list, len_tuple, int_int, max_int, min_int, tuple_list, tuple_tuple, list_list, list_tuple, sum_ints, range1t, range2t, items_list, items_tuple, isi_none_int, isi_none_bool, isi_none_str, isi_none_list, isi_none_tuple, isi_none_dict, isi_bool_int, isi_bool_bool, isi_bool_str, isi_bool_list, isi_bool_tuple, isi_bool_dict, isi_int_int, isi_int_bool, isi_int_str, isi_int_list, isi_int_tuple, isi_int_dict, isi_str_int, isi_str_bool, isi_str_str, isi_str_list, isi_str_tuple, isi_str_dict, isi_list_int, isi_list_bool, isi_list_str, isi_list_list, isi_list_tuple, isi_list_dict, isi_tuple_int, isi_tuple_bool, isi_tuple_str, isi_tuple_list, isi_tuple_tuple, isi_tuple_dict, append_ofL, pop_snoc, atP_nil, putP_nil, atP_cons, putP_cons, setAt_dct, setAt_ofL, setT_nm, setT_tup, setT_lst, enumT, enumLs, zipTT, zipLL, setTs_nil, setTs_cons, isL_ofL, isL_lst, lent_nil, lent_val, lent_own, back_nil, back_val, back_lend, outs_nil, outs_val, outs_own, Cd_non, Cd_bl, Cd_int, Cd_str, parL_nil, parL_f, parL_o, parL_v,
  placeAt, putO, List.find?_cons, List.find?_nil, List.any_cons, List.any_nil, List.all_cons, List.all_nil, List.isEmpty_cons, List.isEmpty_nil, List.map_cons, List.map_nil, List.getElem?_cons_zero, List.getElem?_cons_succ, List.getElem?_nil, List.set_cons_zero, List.set_cons_succ, List.length_cons, List.length_nil, List.replicate_zero, List.replicate_succ, List.cons_append, List.nil_append, Sum.inr.injEq, Sum.inl.injEq, reduceCtorEq, String.reduceEq, decide_true, decide_false, Blt.hands, pureE, pureL, pureO, pureP, pureI, brwOk, parOk, Bool.true_and, Bool.and_true, Bool.false_and, Bool.and_false, Bool.or_false, Bool.false_or, Bool.or_true, Bool.true_or, Bool.not_true, Bool.not_false, if_true, if_false, reduceIte, true_and, and_true, and_self, false_and, and_false, ne_eq, not_true_eq_false, not_false_eq_true, exists_eq_left', exists_eq_left, RV.val.injEq, PyData.int.injEq, PyData.str.injEq, PyData.bool.injEq, implies_true, forall_const, Option.map_some, Option.map_none, Option.bind_some, Option.bind_none, Option.isSome_some, Nat.zero_add, Nat.reduceAdd, Nat.reduceSub, Nat.reduceLeDiff, Nat.reduceLT, Nat.reducePow, Int.reduceLT, Int.reduceLE, Int.reduceAdd, Int.reduceSub, Int.reduceMul, Int.reduceNeg, Int.reducePow, Int.reduceToNat, Nat.reduceEqDiff, Int.reduceEq, true_or, or_true, gt_iff_lt, ge_iff_le, bne_iff_ne, tgtIx, List.contains_cons, List.contains_nil])
local macro_rules | `(tactic| dsimp! [$xs,*]) => `(tactic| simp -dsimp only [$xs,*, e10_64, OW_some, OW_none, OW_map, OW_bind, OW_ite, OW_guard, SlotV_some, look_val, look_own, MvV_val, MvV_own, W_var, W_mv, W_con, W_glo, W_bin, W_neg, W_not, W_cmp, W_chn, W_and, W_or, OrV_bool, AndV_bool, W_ite, W_tup, W_lst, W_dct, W_rng, W_idx, W_slc, W_rev, W_call, W_blt, W_mth, OwnV_some, W_mut, W_isi, W_lc, WL_nil, WL_cons, WA_nil, WA_lend, WA_c_var, WA_c_mv, WA_c_con, WA_c_glo, WA_c_bin, WA_c_neg, WA_c_not, WA_c_cmp, WA_c_chn, WA_c_and, WA_c_or, WA_c_ite, WA_c_tup, WA_c_lst, WA_c_dct, WA_c_rng, WA_c_idx, WA_c_slc, WA_c_rev, WA_c_call, WA_c_blt, WA_c_mth, WA_c_mut, WA_c_isi, WA_c_lc, WP_nil, WP_cons, WO_non, WO_som, WI_blt, WI_of, WB_nil, nextQ_next, nextQ_brk, nextQ_cnt, nextQ_ret, WB_cons, WS_asg, AsO_own, AsO_val, WS_asgO, WS_par, WS_put, WS_exp, WS_ret, RetO_own, RetO_val, WS_retO, WS_ifs, WS_whl, WS_fo, WS_brk, WS_cnt, WS_pas, sl_eq, Nat.zero_le, WS_augA, WS_augS, LtW_eq, Sl.val.injEq, wipeE, List.getD_cons_zero, List.getD_cons_succ, turnQ_next, turnQ_cnt, turnQ_brk, turnQ_ret, cfg_glob, cfg_wf, endQ_ret, endQ_next, Br_true, Br_false, Br_dec, Br_not,
  str_inj, view_val, view_own, view_brw, parts_val, parts_own, parts_brw_ofL, keep_val, keep_own, toO_val, toO_own, isBrw_val, isBrw_own, isBrw_brw, fz_imm, fz_ofL, fz_lst, fz_dct, fzk_nil, fzk_cons, kD_inl, kD_inr, dK_int, dK_str, keeps_nil, keeps_cons, partsL_nil, partsL_cons, truthD_none, truthD_bool, truthD_int, truthD_list, truthD_tuple, add_int, sub_int, mul_int, fdiv_int, mod_int, pow_int, bxor_int, band_int, bor_int, add_tup, add_lst, mul_lst, mul_tup, rep_one, eq_int, ne_int, lt_int, le_int, gt_int, ge_int, at_dct, ofO_imm, ofO_ofL, ofO_dct, idx_val, idx_own, idx_brw, idxD_list, idxD_tuple, at_ofL, slc_list, slc_tuple, rev_list, rev_tuple, len_list, len_tuple, int_int, max_int, min_int, tuple_list, tuple_tuple, list_list, list_tuple, sum_ints, range1t, range2t, items_list, items_tuple, isi_none_int, isi_none_bool, isi_none_str, isi_none_list, isi_none_tuple, isi_none_dict, isi_bool_int, isi_bool_bool, isi_bool_str, isi_bool_list, isi_bool_tuple, isi_bool_dict, isi_int_int, isi_int_bool, isi_int_str, isi_int_list, isi_int_tuple, isi_int_dict, isi_str_int, isi_str_bool, isi_str_str, isi_str_list, isi_str_tuple, isi_str_dict, isi_list_int, isi_list_bool, isi_list_str, isi_list_list, isi_list_tuple, isi_list_dict, isi_tuple_int, isi_tuple_bool, isi_tuple_str, isi_tuple_list, isi_tuple_tuple, isi_tuple_dict, append_ofL, pop_snoc, atP_nil, putP_nil, atP_cons, putP_cons, setAt_dct, setAt_ofL, setT_nm, setT_tup, setT_lst, enumT, enumLs, zipTT, zipLL, setTs_nil, setTs_cons, isL_ofL, isL_lst, lent_nil, lent_val, lent_own, back_nil, back_val, back_lend, outs_nil, outs_val, outs_own, Cd_non, Cd_bl, Cd_int, Cd_str, parL_nil, parL_f, parL_o, parL_v,
  placeAt, putO, List.find?_cons, List.find?_nil, List.any_cons, List.any_nil, List.all_cons, List.all_nil, List.isEmpty_cons, List.isEmpty_nil, List.map_cons, List.map_nil, List.getElem?_cons_zero, List.getElem?_cons_succ, List.getElem?_nil, List.set_cons_zero, List.set_cons_succ, List.length_cons, List.length_nil, List.replicate_zero, List.replicate_succ, List.cons_append, List.nil_append, Sum.inr.injEq, Sum.inl.injEq, reduceCtorEq, String.reduceEq, decide_true, decide_false, Blt.hands, pureE, pureL, pureO, pureP, pureI, brwOk, parOk, Bool.true_and, Bool.and_true, Bool.false_and, Bool.and_false, Bool.or_false, Bool.false_or, Bool.or_true, Bool.true_or, Bool.not_true, Bool.not_false, if_true, if_false, reduceIte, true_and, and_true, and_self, false_and, and_false, ne_eq, not_true_eq_false, not_false_eq_true, exists_eq_left', exists_eq_left, RV.val.injEq, PyData.int.injEq, PyData.str.injEq, PyData.bool.injEq, implies_true, forall_const, Option.map_some, Option.map_none, Option.bind_some, Option.bind_none, Option.isSome_some, Nat.zero_add, Nat.reduceAdd, Nat.reduceSub, Nat.reduceLeDiff, Nat.reduceLT, Nat.reducePow, Int.reduceLT, Int.reduceLE, Int.reduceAdd, Int.reduceSub, Int.reduceMul, Int.reduceNeg, Int.reducePow, Int.reduceToNat, Nat.reduceEqDiff, Int.reduceEq, true_or, or_true, gt_iff_lt, ge_iff_le, bne_iff_ne, tgtIx, List.contains_cons, List.contains_nil])
theorem sw21 : StW (LawHead.prg 18446744073709551616) where
  noth := by show _ = _; kernel_rfl
  glo := by show _ = _; kernel_rfl
  wf := Nat.le_refl _
  is_integer := by show _ = _; kernel_rfl
  is_number := by show _ = _; kernel_rfl
  plus := by show _ = _; kernel_rfl
  opposite := by show _ = _; kernel_rfl
  minus := by show _ = _; kernel_rfl
  times := by show _ = _; kernel_rfl
  power := by show _ = _; kernel_rfl
  inverse := by show _ = _; kernel_rfl
  are_numbers := by show _ = _; kernel_rfl
  trimmed := by show _ = _; kernel_rfl
  is_one_letter := by show _ = _; kernel_rfl
  one_plus := by show _ = _; kernel_rfl
  one_opposite := by show _ = _; kernel_rfl
  one_scaled := by show _ = _; kernel_rfl
  one_times := by show _ = _; kernel_rfl
  one_put := by show _ = _; kernel_rfl
  map_determinant := by show _ = _; kernel_rfl
  is_straight := by show _ = _; kernel_rfl
  is_bend := by show _ = _; kernel_rfl
  turn_map := by show _ = _; kernel_rfl
  sum_of_products := by show _ = _; kernel_rfl
  straight_then := by show _ = _; kernel_rfl
  straight_back := by show _ = _; kernel_rfl
  split_map := by show _ = _; kernel_rfl
  bend_through := by show _ = _; kernel_rfl
  turned_map := by show _ = _; kernel_rfl
  with_straight := by show _ = _; kernel_rfl
  with_bend := by show _ = _; kernel_rfl
  with_pieces := by show _ = _; kernel_rfl
  pieces_of := by show _ = _; kernel_rfl
  back := by show _ = _; kernel_rfl
  are_bends := by show _ = _; kernel_rfl
  are_turns := by show _ = _; kernel_rfl
  is_start := by show _ = _; kernel_rfl
  is_step_value := by show _ = _; kernel_rfl
theorem kin21 : Kin (LawHead.prg 18446744073709551616) where
  w := sw21
  check := by show _ = _; kernel_rfl
  then_ := by show _ = _; kernel_rfl
  seen_by := by show _ = _; kernel_rfl
  seen := by show _ = _; kernel_rfl
  product := by show _ = _; kernel_rfl
  undoing := by show _ = _; kernel_rfl
  nothing := by show _ = _; kernel_rfl
theorem lwn21 : LwN (LawHead.prg 18446744073709551616) where
  powers := by show _ = _; kernel_rfl
  plus := by show _ = _; kernel_rfl
  by_ := by show _ = _; kernel_rfl
  less := by show _ = _; kernel_rfl
  under := by show _ = _; kernel_rfl
  cross := by show _ = _; kernel_rfl
theorem lws21 : LwS (LawHead.prg 18446744073709551616) where
  n := lwn21
  then_ := by show _ = _; kernel_rfl
  shifted := by show _ = _; kernel_rfl
  sum := by show _ = _; kernel_rfl
  put := by show _ = _; kernel_rfl
  row := by show _ = _; kernel_rfl
  back := by show _ = _; kernel_rfl
  made := by show _ = _; kernel_rfl
theorem lwg21 : LwG (LawHead.prg 18446744073709551616) where
  s := lws21
  deck := by show _ = _; kernel_rfl
  draw := by show _ = _; kernel_rfl
  pick := by show _ = _; kernel_rfl
  field := by show _ = _; kernel_rfl
  map := by show _ = _; kernel_rfl
  both := by show _ = _; kernel_rfl
  bend := by show _ = _; kernel_rfl
  step := by show _ = _; kernel_rfl
theorem lwh21 : LwH (LawHead.prg 18446744073709551616) where
  g := lwg21
  short := by show _ = _; kernel_rfl
  change := by show _ = _; kernel_rfl
  seen := by show _ = _; kernel_rfl
  same := by show _ = _; kernel_rfl
theorem k21_ok : K21 (LawHead.prg 18446744073709551616) where
  k := kin21
  h := lwh21
  law := by show _ = _; kernel_rfl
theorem k21_room : Room 12 PySem.callerA := ⟨rfl, by decide +kernel, by decide +kernel⟩
theorem k21_holds : PySem.Challenge.rw_bentplane_k21_steps_seen_by_changes_of_l.Holds := of_answer (k := 12) (wf := 18446744073709551616) k21_room k21_ok.law rfl fun ns _ => by
  have := law21 k21_ok ns (n := 1) (Q := fun r _ => r = .val (.bool true)) rfl
  obtain ⟨⟨r, o⟩, e, q⟩ := this
  simp only at q
  subst q
  exact ⟨o, e⟩
end EV
theorem PySem.Challenge.cw_bentplane_k21_steps_seen_by_changes_of_l_holds : PySem.Challenge.rw_bentplane_k21_steps_seen_by_changes_of_l.Holds := by
  exact EV.k21_holds
