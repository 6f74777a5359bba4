import PyProof.Rows.All
import Wide.All
import OpenK.AllK
import Wide.FinOn
import HandS.ForMost
import HandS.TupAny
import HandS.Style
import HandS.Flow
import HandS.More
import KE.KUnpackStar
import HandS.Defaults
import HandS.HeadEnd
import HandS.HeadHook3
import HandS.Head0
import HandS.Head1
import HandS.Head2
import PyProof.ReprLen
import KE.KStateDown
import PySem.Challenge.RW_windfleet_k06_steps_of_tasks
set_option Elab.async false
set_option linter.all false
/-! Own values, own trees, an evaluator. -/
namespace Wf
open PySem L2

inductive D where
  | non | bl (b : Bool) | int (i : Int) | str (x : Str)
  | tup (xs : List D) | lst (xs : List D) | dct (kvs : List (Key × D)) | ref (i : Nat) | scr (ns : List Int) | kdc (kvs : List (Str × D))

mutual
def D.pd : D → Option PyData
  | .non => some .none
  | .bl b => some (.bool b)
  | .int i => some (.int i)
  | .str x => some (.str x)
  | .tup xs => (pdAll xs).map .tuple
  | .lst xs => (pdAll xs).map .list
  | .dct _ => none
  | .ref _ => none
  | .scr _ => none
  | .kdc _ => none
def pdAll : List D → Option (List PyData)
  | [] => some []
  | d :: ds => match d.pd, pdAll ds with
    | some p, some ps => some (p :: ps)
    | _, _ => none
end

inductive Ob where
  | lst (xs : List D) | dct (kvs : List (Key × D)) | ins (c : Nat) (fs : List (Str × D))
abbrev Sto := List Ob

/-- what a store's object is worth as a value, looked at and not kept -/
def top (S : Sto) : D → D
  | .ref i => match S[i]? with
    | some (.lst xs) => .lst xs
    | some (.dct kvs) => .dct kvs
    | _ => .ref i
  | d => d

/-! ### operations -/
def semBin : Operator → D → D → Option D
  | .Add, .int i, .int j => some (.int (i + j))
  | .Add, .tup xs, .tup ys => if xs.length + ys.length ≤ sizeLine then some (.tup (xs ++ ys)) else none
  | .Add, .lst xs, .lst ys => if xs.length + ys.length ≤ sizeLine then some (.lst (xs ++ ys)) else none
  | .Sub, .int i, .int j => some (.int (i - j))
  | .Mult, .int i, .int j => if (-(2 ^ 64) < i ∧ i < 2 ^ 64) ∨ (-(2 ^ 64) < j ∧ j < 2 ^ 64) then some (.int (i * j)) else none
  | .Mult, .lst xs, .int k => if 0 ≤ k ∧ k < 2 ^ 63 ∧ xs.length * k.toNat ≤ sizeLine then some (.lst (List.replicate k.toNat xs).flatten) else none
  | .FloorDiv, .int i, .int j => if 0 < j ∧ j < 1073741824 then some (.int (i / j)) else none
  | .Mod, .int i, .int j => if 0 < j then some (.int (i % j)) else none
  | .Pow, .int i, .int j => if 0 ≤ j ∧ j ≤ 1000000 ∧ i.natAbs < 2 ^ 64 then some (.int (i ^ j.toNat)) else none
  | _, _, _ => none

def semEq (a b : D) : Option Bool :=
  match a.pd, b.pd with
  | some p, some q => if SeqAt.shaped p && SeqAt.shaped q then some (PyData.eqv p q) else none
  | _, _ => none

def isNon : D → Bool
  | .non => true
  | _ => false

def keyOf : D → Option Key
  | .int i => some (.inl i)
  | .str x => some (.inr x)
  | _ => none
def look (kvs : List (Key × D)) (k : Key) : Option D := (kvs.find? fun kv => decide (kv.1 = k)).map (·.2)
def put (kvs : List (Key × D)) (k : Key) (v : D) : List (Key × D) :=
  if kvs.any fun kv => decide (kv.1 = k) then kvs.map fun kv => if kv.1 = k then (kv.1, v) else kv else kvs ++ [(k, v)]

def semCmp : CmpOp → D → D → Option Bool
  | .Lt, .int i, .int j => some (decide (i < j))
  | .LtE, .int i, .int j => some (decide (i ≤ j))
  | .Gt, .int i, .int j => some (decide (j < i))
  | .GtE, .int i, .int j => some (decide (j ≤ i))
  | .Eq, .int i, .int j => some (decide (i = j))
  | .NotEq, .int i, .int j => some (!decide (i = j))
  | .Eq, .str x, .str y => some (decide (x = y))
  | .NotEq, .str x, .str y => some (!decide (x = y))
  | .Eq, a, b => semEq a b
  | .NotEq, a, b => (semEq a b).map (!·)
  | .Is, a, .non => some (isNon a)
  | .IsNot, a, .non => some (!isNon a)
  | _, _, _ => none

def semIx : D → D → Option D
  | .lst xs, .int i => atI xs i
  | .tup xs, .int i => atI xs i
  | .dct kvs, k => match keyOf k with
    | some k => look kvs k
    | none => none
  | .kdc kvs, .str x => kvs.lookup x
  | _, _ => none

def intsOf : List D → Option (List Int)
  | [] => some []
  | .int i :: r => (intsOf r).map (i :: ·)
  | _ => none
def boolsOf : List D → Option (List Bool)
  | [] => some []
  | .bl b :: r => (boolsOf r).map (b :: ·)
  | _ => none

/-- built-in functions and types by their names: values in (looked at), a value out -/
inductive Bi where
  | len | abs | min | max | int | tuple | list | sum | any | all | repr
  deriving DecidableEq
def semBi : Bi → List D → Option D
  | .len, [.lst xs] => some (.int xs.length)
  | .len, [.tup xs] => some (.int xs.length)
  | .abs, [.int i] => some (.int (if i < 0 then -i else i))
  | .min, [.int i, .int j] => some (.int (if j < i then j else i))
  | .max, [.int i, .int j] => some (.int (if j > i then j else i))
  | .int, [.bl b] => some (.int (if b then 1 else 0))
  | .int, [.int i] => some (.int i)
  | .tuple, [.lst xs] => some (.tup xs)
  | .tuple, [.tup xs] => some (.tup xs)
  | .list, [.lst xs] => some (.lst xs)
  | .list, [.tup xs] => some (.lst xs)
  | .sum, [.lst xs] => (intsOf xs).map fun ns => .int ns.sum
  | .any, [.lst xs] => (boolsOf xs).map fun bs => .bl (bs.any id)
  | .all, [.lst xs] => (boolsOf xs).map fun bs => .bl (bs.all id)
  | .repr, [d] => match d.pd with
    | some p => if p.showable && decide (p.shown.length ≤ sizeLine) && decide (p.depth ≤ 64) then some (.str p.shown) else none
    | none => none
  | _, _ => none

def cutD (xs : List D) (lo hi : Option Int) : List D := (xs.drop (HT.sIx xs.length 0 lo)).take (HT.sIx xs.length xs.length hi - HT.sIx xs.length 0 lo)
def semCut : D → Option Int → Option Int → Option D
  | .lst xs, lo, hi => some (.lst (cutD xs lo hi))
  | .scr ns, lo, hi => some (.lst (cutD (ns.map .int) lo hi))
  | .tup xs, lo, hi => some (.tup (cutD xs lo hi))
  | _, _, _ => none

/-! ### trees -/
mutual
inductive T where
  | nm (i : Nat) | tp (ts : Ts)
  | st (ts : Ts) (i : Nat)
inductive Ts where
  | nil | cons (t : T) (ts : Ts)
end
inductive Ag where
  | vi (k : Nat) | dv (d : D)

mutual
inductive E where
  | k (d : D) | v (i : Nat) | gl (i : Nat)
  | bin (op : Operator) (a b : E) | cmp (op : CmpOp) (a b : P) | chn (o1 o2 : CmpOp) (a b c : E)
  | neg (a : E) | nt (a : E) | and_ (a b : E) | or_ (a b : E) | ite (c a b : E)
  | sub (a : P) (i : E) | cut (a : P) (lo hi : Oe) | rev (a : P)
  | tup (es : Es) | lst (es : Es) | dsp (ps : Ps)
  | bi (f : Bi) (es : Qs)
  | call (f : Nat) (es ks : Es) (perm : List Ag)
  | lc (own : List Nat) (t : T) (it : It) (c : Oe) (elt : E)
  | box (a : E)
  | pop (a : E) | app (a b : E)
inductive P where
  | e (e : E) | pk (i : Nat)
inductive Qs where
  | nil | cons (p : P) (ps : Qs)
inductive Oe where
  | none | some (e : E)
inductive Es where
  | nil | cons (e : E) (es : Es)
inductive Ps where
  | nil | cons (k v : E) (ps : Ps)
inductive It where
  | seq (e : E) | rng1 (a : E) | rng2 (a b : E)
end

mutual
inductive Sx where
  | asg (t : T) (e : E) | own (i : Nat) (e : E) | put (o i e : E) | pst (i : Nat) (k e : E)
  | ex (e : E) | ret (e : E) | iff (c : E) (a b : Ss) | fr (t : T) (it : It) (b : Ss) | apS (i : Nat) (e : E) | frz (i : Nat)
inductive Ss where
  | nil | cons (s : Sx) (ss : Ss)
end

/-! ### the environment -/
inductive Sl where
  | un | fz (d : D) | ol (xs : List D) | od (kvs : List (Key × D))
abbrev Env := List Sl
def getS (env : Env) (i : Nat) : Option D := match env[i]? with
  | some (.fz d) => some d
  | _ => none
/-- what is looked at and not kept -/
def peekS (env : Env) (i : Nat) : Option D := match env[i]? with
  | some (.fz d) => some d
  | some (.ol xs) => some (.lst xs)
  | some (.od kvs) => some (.dct kvs)
  | _ => none
def setS (env : Env) (i : Nat) (d : D) : Env := env.set i (.fz d)

def seqD : D → Option (List D)
  | .tup xs => some xs
  | .lst xs => some xs
  | _ => none
def Ts.len : Ts → Nat
  | .nil => 0
  | .cons _ ts => ts.len + 1
/-- with a star at place i of n -/
def starD (xs : List D) (n i : Nat) : List D := xs.take i ++ [.lst ((xs.drop i).take (xs.length + 1 - n))] ++ (xs.drop i).drop (xs.length + 1 - n)
mutual
def T.sl : T → List Nat
  | .nm i => [i]
  | .tp ts => ts.sl
  | .st ts _ => ts.sl
def Ts.sl : Ts → List Nat
  | .nil => []
  | .cons t ts => t.sl ++ ts.sl
end
mutual
def asgT : T → D → Env → Option Env
  | .nm i, d, env => some (setS env i d)
  | .tp ts, d, env => (seqD d).bind fun xs => asgTs ts xs env
  | .st ts i, d, env => (seqD d).bind fun xs => if i < ts.len ∧ ts.len ≤ xs.length + 1 then asgTs ts (starD xs ts.len i) env else none
def asgTs : Ts → List D → Env → Option Env
  | .nil, [], env => some env
  | .cons t ts, d :: ds, env => (asgT t d env).bind (asgTs ts ds)
  | _, _, _ => none
end

def permA (vs : List D) : List Ag → Option (List D)
  | [] => some []
  | .vi k :: r => match vs[k]?, permA vs r with
    | some d, some ds => some (d :: ds)
    | _, _ => none
  | .dv d :: r => (permA vs r).map (d :: ·)

structure Orc where
  call : Nat → List D → Sto → Option (D × Sto)
  gl : List D

def bl? : D → Option Bool
  | .bl b => some b
  | _ => none
def int? : D → Option Int
  | .int i => some i
  | _ => none
def wipeS (env : Env) : List Nat → Env
  | [] => env
  | v :: vs => (wipeS env vs).set v .un
def rangeD (lo hi : Int) : List D := (List.range (hi - lo).toNat).map fun (k : Nat) => .int (lo + (k : Int))
def small62 (i : Int) : Bool := decide (-(2 ^ 62) ≤ i) && decide (i < 2 ^ 62)

/-- a list of the store -/
def refL : D → Sto → Option (Nat × List D)
  | .ref i, S => match S[i]? with
    | some (.lst xs) => some (i, xs)
    | _ => none
  | _, _ => none
theorem refL_of {d : D} {S : Sto} {r : Nat × List D} (h : refL d S = some r) : d = .ref r.1 ∧ S[r.1]? = some (.lst r.2) := by
  unfold refL at h
  split at h
  · split at h
    · rename_i q
      cases h
      exact ⟨rfl, q⟩
    · cases h
  · cases h
/-- one item of a comprehension behind another -/
def lcGo (f : D → Sto → Option (Option D × Sto)) : List D → List D → Sto → Option (List D × Sto)
  | [], acc, S => some (acc, S)
  | d :: ds, acc, S => match f d S with
    | some (some x, S1) => if acc.length < sizeLine then lcGo f ds (acc ++ [x]) S1 else none
    | some (none, S1) => lcGo f ds acc S1
    | none => none

mutual
def evE (C : Orc) : E → Env → Sto → Option (D × Sto)
  | .k d, _, S => some (d, S)
  | .v i, env, S => (getS env i).map (·, S)
  | .gl i, _, S => (C.gl[i]?).map (·, S)
  | .bin op a b, env, S => (evE C a env S).bind fun p => (evE C b env p.2).bind fun q => (semBin op (top q.2 p.1) (top q.2 q.1)).map (·, q.2)
  | .cmp op a b, env, S => (evP C a env S).bind fun p => (evP C b env p.2).bind fun q => (semCmp op (top q.2 p.1) (top q.2 q.1)).map (.bl ·, q.2)
  | .chn o1 o2 a b c, env, S => (evE C a env S).bind fun p => (evE C b env p.2).bind fun q => (semCmp o1 (top q.2 p.1) (top q.2 q.1)).bind fun k =>
      if k then (evE C c env q.2).bind fun r => (semCmp o2 (top r.2 q.1) (top r.2 r.1)).map (.bl ·, r.2) else some (.bl false, q.2)
  | .neg a, env, S => (evE C a env S).bind fun p => (int? p.1).map fun i => (.int (-i), p.2)
  | .nt a, env, S => (evE C a env S).bind fun p => (bl? p.1).map fun b => (.bl (!b), p.2)
  | .and_ a b, env, S => (evE C a env S).bind fun p => (bl? p.1).bind fun k => if k then evE C b env p.2 else some (.bl false, p.2)
  | .or_ a b, env, S => (evE C a env S).bind fun p => (bl? p.1).bind fun k => if k then some (.bl true, p.2) else evE C b env p.2
  | .ite c a b, env, S => (evE C c env S).bind fun p => (bl? p.1).bind fun k => if k then evE C a env p.2 else evE C b env p.2
  | .sub a i, env, S => (evP C a env S).bind fun p => (evE C i env p.2).bind fun q => (semIx (top q.2 p.1) q.1).map (·, q.2)
  | .cut a lo hi, env, S => (evP C a env S).bind fun p => (evO C lo env p.2).bind fun q => (evO C hi env q.2).bind fun r => (semCut (top r.2 p.1) q.1 r.1).map (·, r.2)
  | .rev a, env, S => (evP C a env S).bind fun p => match top p.2 p.1 with
      | .lst xs => some (.lst xs.reverse, p.2)
      | _ => none
  | .tup es, env, S => (evEs C es env S).bind fun p => if p.1.length ≤ sizeLine then some (.tup p.1, p.2) else none
  | .lst es, env, S => (evEs C es env S).bind fun p => if p.1.length ≤ sizeLine then some (.lst p.1, p.2) else none
  | .dsp ps, env, S => (evPs C ps env S).bind fun p => if p.1.length ≤ 15 then some (.dct (p.1.foldl (fun acc kv => put acc kv.1 kv.2) []), p.2) else none
  | .bi f es, env, S => (evQs C es env S).bind fun p => (semBi f (p.1.map (top p.2))).map (·, p.2)
  | .call f es ks perm, env, S => (evEs C es env S).bind fun p => (evEs C ks env p.2).bind fun q => (permA (p.1 ++ q.1) perm).bind fun ds => C.call f ds q.2
  | .lc own t it c elt, env, S => (evI C it env S).bind fun p =>
      (lcGo (fun d S => (asgT t d (wipeS env own)).bind fun env' => (evC C c env' S).bind fun q => if q.1 then (evE C elt env' q.2).map fun r => (some r.1, r.2) else some (none, q.2)) p.1 [] p.2).map fun r => (.lst r.1, r.2)
  | .box a, env, S => (evE C a env S).bind fun p => match p.1 with
      | .lst xs => some (.ref p.2.length, p.2 ++ [.lst xs])
      | .dct kvs => some (.ref p.2.length, p.2 ++ [.dct kvs])
      | _ => none
  | .pop a, env, S => (evE C a env S).bind fun p => (refL p.1 p.2).bind fun r => (r.2[r.2.length - 1]?).map fun y => (y, p.2.set r.1 (.lst r.2.dropLast))
  | .app a b, env, S => (evE C a env S).bind fun p => (refL p.1 p.2).bind fun _ => (evE C b env p.2).bind fun q => (refL p.1 q.2).bind fun r =>
      if r.2.length < sizeLine then some (.non, q.2.set r.1 (.lst (r.2 ++ [q.1]))) else none
/-- looked at -/
def evP (C : Orc) : P → Env → Sto → Option (D × Sto)
  | .pk i, env, S => (peekS env i).map (·, S)
  | .e e, env, S => evE C e env S
def evO (C : Orc) : Oe → Env → Sto → Option (Option Int × Sto)
  | .none, _, S => some (none, S)
  | .some e, env, S => (evE C e env S).bind fun p => (int? p.1).map fun i => (some i, p.2)
def evC (C : Orc) : Oe → Env → Sto → Option (Bool × Sto)
  | .none, _, S => some (true, S)
  | .some e, env, S => (evE C e env S).bind fun p => (bl? p.1).map fun b => (b, p.2)
def evEs (C : Orc) : Es → Env → Sto → Option (List D × Sto)
  | .nil, _, S => some ([], S)
  | .cons e es, env, S => (evE C e env S).bind fun p => (evEs C es env p.2).map fun q => (p.1 :: q.1, q.2)
def evQs (C : Orc) : Qs → Env → Sto → Option (List D × Sto)
  | .nil, _, S => some ([], S)
  | .cons e es, env, S => (evP C e env S).bind fun p => (evQs C es env p.2).map fun q => (p.1 :: q.1, q.2)
def evPs (C : Orc) : Ps → Env → Sto → Option (List (Key × D) × Sto)
  | .nil, _, S => some ([], S)
  | .cons k v ps, env, S => (evE C k env S).bind fun p => (keyOf p.1).bind fun k => (evE C v env p.2).bind fun q => (evPs C ps env q.2).map fun r => ((k, q.1) :: r.1, r.2)
def evI (C : Orc) : It → Env → Sto → Option (List D × Sto)
  | .seq e, env, S => (evE C e env S).bind fun p => match p.1 with
      | .lst xs => some (xs, p.2)
      | .tup xs => some (xs, p.2)
      | _ => none
  | .rng1 a, env, S => (evE C a env S).bind fun p => (int? p.1).bind fun i => if small62 i then some (rangeD 0 i, p.2) else none
  | .rng2 a b, env, S => (evE C a env S).bind fun p => (evE C b env p.2).bind fun q => (int? p.1).bind fun i => (int? q.1).bind fun j => if small62 i && small62 j then some (rangeD i j, q.2) else none
end
end Wf
namespace Wf
open PySem L2
/-! ### statements -/
inductive Fl where
  | nx (env : Env) (S : Sto) | rt (d : D) (S : Sto)

def frGo (f : D → Env → Sto → Option Fl) : List D → Env → Sto → Option Fl
  | [], env, S => some (.nx env S)
  | d :: ds, env, S => match f d env S with
    | some (.nx env' S') => frGo f ds env' S'
    | r => r

def putAt (ob : Ob) (k v : D) : Option Ob := match ob, k with
  | .lst xs, .int i => (ixN xs.length i).map fun j => .lst (xs.set j v)
  | .dct kvs, k => (keyOf k).bind fun k => if kvs.length < sizeLine then some (.dct (put kvs k v)) else none
  | _, _ => none

mutual
def evS (C : Orc) : Sx → Env → Sto → Option Fl
  | .asg t e, env, S => (evE C e env S).bind fun p => (asgT t p.1 env).map (.nx · p.2)
  | .own i e, env, S => (evE C e env S).bind fun p => match p.1 with
      | .lst xs => some (.nx (env.set i (.ol xs)) p.2)
      | .dct kvs => some (.nx (env.set i (.od kvs)) p.2)
      | _ => none
  | .put o i e, env, S => (evE C e env S).bind fun p => (evE C o env p.2).bind fun q => (evE C i env q.2).bind fun r => match q.1 with
      | .ref a => (r.2[a]?).bind fun ob => (putAt ob r.1 p.1).map fun ob' => .nx env (r.2.set a ob')
      | _ => none
  | .pst i k e, env, S => (evE C e env S).bind fun p => (evE C k env p.2).bind fun r => match env[i]? with
      | some (.od kvs) => (keyOf r.1).bind fun k => if kvs.length < sizeLine then some (.nx (env.set i (.od (put kvs k p.1))) r.2) else none
      | some (.ol xs) => match r.1 with
        | .int j => (ixN xs.length j).map fun j => .nx (env.set i (.ol (xs.set j p.1))) r.2
        | _ => none
      | _ => none
  | .ex e, env, S => (evE C e env S).map fun p => .nx env p.2
  | .ret e, env, S => (evE C e env S).map fun p => .rt p.1 p.2
  | .iff c a b, env, S => (evE C c env S).bind fun p => (bl? p.1).bind fun k => if k then evSs C a env p.2 else evSs C b env p.2
  | .fr t it b, env, S => (evI C it env S).bind fun p => frGo (fun d env S => (asgT t d env).bind fun env' => evSs C b env' S) p.1 env p.2
  | .apS i e, env, S => (evE C e env S).bind fun p => match env[i]? with
      | some (.ol xs) => if xs.length < sizeLine then some (.nx (env.set i (.ol (xs ++ [p.1]))) p.2) else none
      | _ => none
  | .frz i, env, S => match env[i]? with
      | some (.ol xs) => some (.nx (env.set i (.fz (.lst xs))) S)
      | some (.od kvs) => some (.nx (env.set i (.fz (.dct kvs))) S)
      | _ => none
def evSs (C : Orc) : Ss → Env → Sto → Option Fl
  | .nil, env, S => some (.nx env S)
  | .cons s ss, env, S => match evS C s env S with
    | some (.nx env' S') => evSs C ss env' S'
    | r => r
end

/-- a def: how many slots, its body -/
structure Fn where
  ar : Nat
  n : Nat
  body : Ss
def runFn (C : Orc) (f : Fn) (ds : List D) (S : Sto) : Option (D × Sto) :=
  match evSs C f.body (ds.map .fz ++ List.replicate (f.n - ds.length) .un) S with
  | some (.rt d S') => some (d, S')
  | some (.nx _ S') => some (.non, S')
  | none => none
/-- calls, so and so deep -/
structure Prg where
  fs : List Fn
  gl : List D
def callN (P : Prg) : Nat → Nat → List D → Sto → Option (D × Sto)
  | 0, _, _, _ => none
  | n + 1, i, ds, S => match P.fs[i]? with
    | some f => if f.ar = ds.length then runFn ⟨callN P n, P.gl⟩ f ds S else none
    | none => none
def orc (P : Prg) (n : Nat) : Orc := ⟨callN P n, P.gl⟩
end Wf
set_option Elab.async false
set_option linter.all false
namespace Wf
open PySem L2

def FzL (H : Hp) (ρ B : List Addr) (a : Addr) (vs : List V) : Prop := H a = some (.lst vs) ∧ a ∉ ρ ∧ a ∉ B
def FzD (H : Hp) (ρ B : List Addr) (a : Addr) (kvs : List (Key × V)) : Prop := H a = some (.dK kvs) ∧ a ∉ ρ ∧ a ∉ B
def Scr (K : PySem.W.Frag) (H : Hp) (a : Addr) (vs : List V) : Prop :=
  (∃ o, H a = some (.frz o (.lst vs))) ∨
    ∃ (o : Obj) (its : Array Value) (n : Nat), K.lookup a = some o ∧ o.cls = .type "list" ∧ o.dict = none ∧ o.data = .seq its n ∧ its.size ≤ sizeLine ∧ Vals vs its.toList
theorem Scr.sq {K : PySem.W.Frag} {H : Hp} {a : Addr} {vs : List V} (h : Scr K H a vs) : SqL K H a vs := by
  rcases h with h | h
  · exact .inl (.inr h)
  · exact .inr h
/-- a plain value -/
def VSc : D → V → Prop
  | .non, v => v = .non
  | .bl b, v => v = .bl b
  | .int i, v => v = .int i
  | .str x, v => v = .str x
  | _, _ => False
/-- a written dict of plain values by texts -/
def KD (K : PySem.W.Frag) (w : World) (a : Addr) (kvs : List (Str × D)) : Prop :=
  ∃ (es : Array DictEntry) (n : Nat), K.lookup a = some ⟨.type "dict", none, .dict es n, #[]⟩ ∧ PySem.W.KeysLit w.params es.toList ∧ (a == sysModules) = false ∧
    (∀ x d, kvs.lookup x = some d → ∃ u v, PySem.W.nsIn K a x = some (some u) ∧ RelV v u ∧ VSc d v) ∧ ∀ x, kvs.lookup x = none → PySem.W.nsIn K a x = some none

/-- the surroundings of a relation: the written part, the world, the heap, the store's addresses, those that are owned by somebody -/
structure Cr where
  K : PySem.W.Frag
  w : World
  cl : List Addr
mutual
inductive VR (G : Cr) (H : Hp) (ρ B : List Addr) : D → V → Prop
  | non : VR G H ρ B .non .non
  | bl (b : Bool) : VR G H ρ B (.bl b) (.bl b)
  | int (i : Int) : VR G H ρ B (.int i) (.int i)
  | str (x : Str) : VR G H ρ B (.str x) (.str x)
  | tup {a : Addr} {ds : List D} {vs : List V} : SqT G.K H a vs → VRs G H ρ B ds vs → VR G H ρ B (.tup ds) (.ref a)
  | lst {a : Addr} {ds : List D} {vs : List V} : FzL H ρ B a vs → VRs G H ρ B ds vs → VR G H ρ B (.lst ds) (.ref a)
  | dct {a : Addr} {ds : List (Key × D)} {vs : List (Key × V)} : FzD H ρ B a vs → VRk G H ρ B ds vs → VR G H ρ B (.dct ds) (.ref a)
  | ref {a : Addr} {i : Nat} : ρ[i]? = some a → VR G H ρ B (.ref i) (.ref a)
  | scr {a : Addr} {ns : List Int} : Scr G.K H a (ns.map V.int) → VR G H ρ B (.scr ns) (.ref a)
  | kdc {a : Addr} {kvs : List (Str × D)} : KD G.K G.w a kvs → VR G H ρ B (.kdc kvs) (.ref a)
inductive VRs (G : Cr) (H : Hp) (ρ B : List Addr) : List D → List V → Prop
  | nil : VRs G H ρ B [] []
  | cons {d : D} {v : V} {ds : List D} {vs : List V} : VR G H ρ B d v → VRs G H ρ B ds vs → VRs G H ρ B (d :: ds) (v :: vs)
inductive VRk (G : Cr) (H : Hp) (ρ B : List Addr) : List (Key × D) → List (Key × V) → Prop
  | nil : VRk G H ρ B [] []
  | cons {k : Key} {d : D} {v : V} {ds : List (Key × D)} {vs : List (Key × V)} : VR G H ρ B d v → VRk G H ρ B ds vs → VRk G H ρ B ((k, d) :: ds) ((k, v) :: vs)
end

structure Keep (G : Cr) (H : Hp) (ρ B : List Addr) (H' : Hp) (ρ' B' : List Addr) : Prop where
  tup : ∀ a vs, SqT G.K H a vs → SqT G.K H' a vs
  lst : ∀ a vs, FzL H ρ B a vs → FzL H' ρ' B' a vs
  dct : ∀ a kvs, FzD H ρ B a kvs → FzD H' ρ' B' a kvs
  scr : ∀ a vs, Scr G.K H a vs → Scr G.K H' a vs
  ref : ∀ (i : Nat) (a : Addr), ρ[i]? = some a → ρ'[i]? = some a

section
variable {G : Cr} {H H' : Hp} {ρ ρ' B B' : List Addr}
mutual
theorem VR.mono (k : Keep G H ρ B H' ρ' B') : ∀ (d : D) (v : V), VR G H ρ B d v → VR G H' ρ' B' d v
  | .non, _, .non => .non
  | .bl _, _, .bl b => .bl b
  | .int _, _, .int i => .int i
  | .str _, _, .str x => .str x
  | .tup ds, _, .tup (vs := vs) q r => .tup (k.tup _ _ q) (VRs.mono k ds vs r)
  | .lst ds, _, .lst (vs := vs) q r => .lst (k.lst _ _ q) (VRs.mono k ds vs r)
  | .dct ds, _, .dct (vs := vs) q r => .dct (k.dct _ _ q) (VRk.mono k ds vs r)
  | .ref _, _, .ref e => .ref (k.ref _ _ e)
  | .scr _, _, .scr q => .scr (k.scr _ _ q)
  | .kdc _, _, .kdc q => .kdc q
theorem VRs.mono (k : Keep G H ρ B H' ρ' B') : ∀ (ds : List D) (vs : List V), VRs G H ρ B ds vs → VRs G H' ρ' B' ds vs
  | [], _, .nil => .nil
  | d :: ds, _, .cons (v := v) (vs := vs) q r => .cons (VR.mono k d v q) (VRs.mono k ds vs r)
theorem VRk.mono (k : Keep G H ρ B H' ρ' B') : ∀ (ds : List (Key × D)) (vs : List (Key × V)), VRk G H ρ B ds vs → VRk G H' ρ' B' ds vs
  | [], _, .nil => .nil
  | (_, d) :: ds, _, .cons (v := v) (vs := vs) q r => .cons (VR.mono k d v q) (VRk.mono k ds vs r)
end
end

section
variable {G : Cr} {H : Hp} {ρ B : List Addr}
theorem VRs.length : ∀ {ds : List D} {vs : List V}, VRs G H ρ B ds vs → vs.length = ds.length
  | _, _, .nil => rfl
  | _, _, .cons _ r => congrArg Nat.succ (VRs.length r)
theorem VRs.append : ∀ {ds es : List D} {vs us : List V}, VRs G H ρ B ds vs → VRs G H ρ B es us → VRs G H ρ B (ds ++ es) (vs ++ us)
  | _, _, _, _, .nil, s => s
  | _, _, _, _, .cons r t, s => .cons r (VRs.append t s)
theorem VRs.get : ∀ {ds : List D} {vs : List V} {i : Nat} {d : D}, VRs G H ρ B ds vs → ds[i]? = some d → ∃ v, vs[i]? = some v ∧ VR G H ρ B d v
  | _, _, _, _, .nil, e => by simp at e
  | _, _, 0, _, .cons r _, e => by simp at e; subst e; exact ⟨_, rfl, r⟩
  | _, _, i + 1, d, .cons _ t, e => by
    obtain ⟨v, h1, h2⟩ := VRs.get (i := i) (d := d) t (by simpa using e)
    exact ⟨v, by simpa using h1, h2⟩
theorem VRs.getV : ∀ {ds : List D} {vs : List V} {i : Nat} {v : V}, VRs G H ρ B ds vs → vs[i]? = some v → ∃ d, ds[i]? = some d ∧ VR G H ρ B d v
  | _, _, _, _, .nil, e => by simp at e
  | _, _, 0, _, .cons r _, e => by simp at e; subst e; exact ⟨_, rfl, r⟩
  | _, _, i + 1, d, .cons _ t, e => by
    obtain ⟨v, h1, h2⟩ := VRs.getV (i := i) (v := d) t (by simpa using e)
    exact ⟨v, by simpa using h1, h2⟩
theorem VRs.take : ∀ {ds : List D} {vs : List V} (n : Nat), VRs G H ρ B ds vs → VRs G H ρ B (ds.take n) (vs.take n)
  | _, _, 0, _ => .nil
  | _, _, _ + 1, .nil => .nil
  | _, _, n + 1, .cons r t => .cons r (VRs.take n t)
theorem VRs.drop : ∀ {ds : List D} {vs : List V} (n : Nat), VRs G H ρ B ds vs → VRs G H ρ B (ds.drop n) (vs.drop n)
  | _, _, 0, r => r
  | _, _, _ + 1, .nil => .nil
  | _, _, n + 1, .cons _ t => VRs.drop n t
theorem VRs.set {d : D} {v : V} (r : VR G H ρ B d v) : ∀ {ds : List D} {vs : List V} (i : Nat), VRs G H ρ B ds vs → VRs G H ρ B (ds.set i d) (vs.set i v)
  | _, _, _, .nil => .nil
  | _, _, 0, .cons _ t => .cons r t
  | _, _, i + 1, .cons q t => .cons q (VRs.set r i t)
theorem VRs.reverse : ∀ {ds : List D} {vs : List V}, VRs G H ρ B ds vs → VRs G H ρ B ds.reverse vs.reverse
  | _, _, .nil => .nil
  | _, _, .cons r t => by rw [List.reverse_cons, List.reverse_cons]; exact (VRs.reverse t).append (.cons r .nil)
theorem VRs.dropLast : ∀ {ds : List D} {vs : List V}, VRs G H ρ B ds vs → VRs G H ρ B ds.dropLast vs.dropLast := fun {ds vs} r => by
  rw [List.dropLast_eq_take, List.dropLast_eq_take, r.length]
  exact r.take _
theorem VRs.flat {ds : List D} {vs : List V} (r : VRs G H ρ B ds vs) : ∀ n : Nat, VRs G H ρ B (List.replicate n ds).flatten (List.replicate n vs).flatten
  | 0 => .nil
  | n + 1 => by rw [List.replicate_succ, List.replicate_succ, List.flatten_cons, List.flatten_cons]; exact r.append (VRs.flat r n)
theorem VRs.cut {ds : List D} {vs : List V} (r : VRs G H ρ B ds vs) (lo hi : Option Int) : VRs G H ρ B (cutD ds lo hi) (cutV vs lo hi) := by
  unfold cutD cutV
  rw [r.length]
  exact (r.drop _).take _
theorem VRs.ints : ∀ {ds : List D} {vs : List V} {ns : List Int}, VRs G H ρ B ds vs → intsOf ds = some ns → vs = ns.map V.int
  | _, _, _, .nil, e => by cases e; rfl
  | d :: ds, _, ns, .cons r t, e => by
    cases r <;> simp only [intsOf] at e <;> try (cases e; done)
    obtain ⟨ms, e1, e2⟩ := Option.map_eq_some_iff.mp e
    subst e2
    rw [VRs.ints t e1, List.map_cons]
theorem VRs.bools : ∀ {ds : List D} {vs : List V} {ns : List Bool}, VRs G H ρ B ds vs → boolsOf ds = some ns → vs = ns.map V.bl
  | _, _, _, .nil, e => by cases e; rfl
  | d :: ds, _, ns, .cons r t, e => by
    cases r <;> simp only [boolsOf] at e <;> try (cases e; done)
    obtain ⟨ms, e1, e2⟩ := Option.map_eq_some_iff.mp e
    subst e2
    rw [VRs.bools t e1, List.map_cons]
theorem VRs.mapInt : ∀ (ns : List Int), VRs G H ρ B (ns.map D.int) (ns.map V.int)
  | [] => .nil
  | n :: ns => .cons (.int n) (VRs.mapInt ns)
theorem VRk.lk {k : Key} : ∀ {ds : List (Key × D)} {vs : List (Key × V)} {d : D}, VRk G H ρ B ds vs → look ds k = some d → ∃ v, valV vs k = some v ∧ VR G H ρ B d v
  | _, _, _, .nil, e => by cases e
  | (k', d') :: ds, _, d, .cons (v := v) (vs := vs) r t, e => by
    unfold look at e
    unfold valV
    by_cases h : k' = k
    · rw [List.find?_cons_of_pos (by simpa using h)] at e ⊢
      cases e; exact ⟨v, rfl, r⟩
    · rw [List.find?_cons_of_neg (by simpa using h)] at e ⊢
      exact VRk.lk t e
theorem VRk.any {k : Key} : ∀ {ds : List (Key × D)} {vs : List (Key × V)}, VRk G H ρ B ds vs → (ds.any fun kv => decide (kv.1 = k)) = (vs.any fun kv => decide (kv.1 = k))
  | _, _, .nil => rfl
  | (k', d') :: ds, _, .cons (v := v) (vs := vs) r t => by
    rw [List.any_cons, List.any_cons, VRk.any t]
theorem VRk.lkNone {k : Key} : ∀ {ds : List (Key × D)} {vs : List (Key × V)}, VRk G H ρ B ds vs → look ds k = none → valV vs k = none
  | _, _, .nil, e => rfl
  | (k', d') :: ds, _, .cons (v := v) (vs := vs) r t, e => by
    unfold look at e
    unfold valV
    by_cases h : k' = k
    · rw [List.find?_cons_of_pos (by simpa using h)] at e
      cases e
    · rw [List.find?_cons_of_neg (by simpa using h)] at e ⊢
      exact VRk.lkNone t e
theorem VRk.length : ∀ {ds : List (Key × D)} {vs : List (Key × V)}, VRk G H ρ B ds vs → vs.length = ds.length
  | _, _, .nil => rfl
  | _, _, .cons _ r => congrArg Nat.succ (VRk.length r)
theorem VRk.append : ∀ {ds es : List (Key × D)} {vs us : List (Key × V)}, VRk G H ρ B ds vs → VRk G H ρ B es us → VRk G H ρ B (ds ++ es) (vs ++ us)
  | _, _, _, _, .nil, s => s
  | _, _, _, _, .cons r t, s => .cons r (VRk.append t s)
theorem VRk.map {k : Key} {d : D} {v : V} (r : VR G H ρ B d v) : ∀ {ds : List (Key × D)} {vs : List (Key × V)}, VRk G H ρ B ds vs →
    VRk G H ρ B (ds.map fun kv => if kv.1 = k then (kv.1, d) else kv) (vs.map fun kv => if kv.1 = k then (kv.1, v) else kv)
  | _, _, .nil => .nil
  | (k', d') :: ds, _, .cons (v := v') (vs := vs) q t => by
    rw [List.map_cons, List.map_cons]
    by_cases h : k' = k
    · rw [if_pos h, if_pos h]; exact .cons r (VRk.map r t)
    · rw [if_neg h, if_neg h]; exact .cons q (VRk.map r t)
end

section
variable {G : Cr} {H H1 H2 : Hp} {ρ ρ1 ρ2 B : List Addr} {S S1 : Sto}
theorem VRk.put {k : Key} {d : D} {v : V} {ds : List (Key × D)} {vs : List (Key × V)} (r : VR G H ρ B d v) (q : VRk G H ρ B ds vs) : VRk G H ρ B (Wf.put ds k d) (putK vs k v) := by
  unfold Wf.put putK
  rw [q.any]
  split
  · exact VRk.map r q
  · exact q.append (.cons r .nil)

def VRf (G : Cr) (H : Hp) (ρ B : List Addr) (fs : List (Str × D)) (gs : List (Str × V)) : Prop := Paired (fun p q => p.1 = q.1 ∧ VR G H ρ B p.2 q.2) fs gs
/-- a store's object, as it stands -/
inductive ObR (G : Cr) (H : Hp) (ρ B : List Addr) : Ob → Addr → Prop
  | lst {a : Addr} {ds : List D} {vs : List V} : H a = some (.lst vs) → VRs G H ρ B ds vs → ObR G H ρ B (.lst ds) a
  | dct {a : Addr} {ds : List (Key × D)} {vs : List (Key × V)} : H a = some (.dK vs) → VRk G H ρ B ds vs → ObR G H ρ B (.dct ds) a
  | ins {a C dx : Addr} {c : Nat} {fs : List (Str × D)} {gs : List (Str × V)} : H a = some (.ins C dx gs) → G.cl[c]? = some C → VRf G H ρ B fs gs → ObR G H ρ B (.ins c fs) a
theorem ObR.mut {ob : Ob} {a : Addr} (r : ObR G H ρ B ob a) : Mut (H a) := by
  cases r with
  | lst h _ => rw [h]; trivial
  | dct h _ => rw [h]; trivial
  | ins h _ _ => rw [h]; trivial
structure SR (G : Cr) (H : Hp) (ρ B : List Addr) (S : Sto) : Prop where
  len : ρ.length = S.length
  nd : ρ.Nodup
  ob : ∀ (i : Nat) (o : Ob) (a : Addr), S[i]? = some o → ρ[i]? = some a → ObR G H ρ B o a
  bt : ∀ a ∈ B, H a ≠ none ∧ a ∉ ρ
theorem SR.at (s : SR G H ρ B S) {i : Nat} {o : Ob} (e : S[i]? = some o) : ∃ a, ρ[i]? = some a ∧ ObR G H ρ B o a := by
  have h : i < ρ.length := by rw [s.len]; exact (List.getElem?_eq_some_iff.mp e).1
  exact ⟨ρ[i], List.getElem?_eq_getElem h, s.ob i o _ e (List.getElem?_eq_getElem h)⟩
theorem SR.mem (s : SR G H ρ B S) {a : Addr} (h : a ∈ ρ) : ∃ (i : Nat) (o : Ob), S[i]? = some o ∧ ρ[i]? = some a ∧ ObR G H ρ B o a := by
  obtain ⟨i, hi, e⟩ := List.getElem_of_mem h
  have hs : i < S.length := by rw [← s.len]; exact hi
  exact ⟨i, S[i], List.getElem?_eq_getElem hs, by rw [List.getElem?_eq_getElem hi, e], s.ob i _ a (List.getElem?_eq_getElem hs) (by rw [List.getElem?_eq_getElem hi, e])⟩
theorem SR.mut (s : SR G H ρ B S) {a : Addr} (h : a ∈ ρ) : Mut (H a) := let ⟨_, _, _, _, r⟩ := s.mem h; r.mut
theorem SR.tracked (s : SR G H ρ B S) {a : Addr} (h : a ∈ ρ) : H a ≠ none := fun e => by
  have m := s.mut h
  rw [e] at m
  exact m

/-- what an expression may do: the store's objects change, new ones come -/
structure Ext (H : Hp) (ρ : List Addr) (H' : Hp) (ρ' : List Addr) : Prop where
  keep : ∀ a o, H a = some o → a ∉ ρ → H' a = some o
  there : ∀ a, H a ≠ none → H' a ≠ none
  new : ∃ n, ρ' = ρ ++ n ∧ ∀ p ∈ n, H p = none
theorem Ext.refl : Ext H ρ H ρ := ⟨fun _ _ h _ => h, fun _ h => h, [], by simp, fun _ h => nomatch h⟩
theorem Ext.old (e : Ext H ρ H1 ρ1) {a : Addr} (h : H a ≠ none) (n : a ∉ ρ) : a ∉ ρ1 := by
  obtain ⟨m, rfl, hm⟩ := e.new
  intro z
  rcases List.mem_append.mp z with z | z
  · exact n z
  · exact h (hm a z)
theorem Ext.trans (e : Ext H ρ H1 ρ1) (f : Ext H1 ρ1 H2 ρ2) : Ext H ρ H2 ρ2 := by
  refine ⟨fun a o h n => f.keep a o (e.keep a o h n) (e.old (by rw [h]; simp) n), fun a h => f.there a (e.there a h), ?_⟩
  obtain ⟨m, rfl, hm⟩ := e.new
  obtain ⟨m', rfl, hm'⟩ := f.new
  refine ⟨m ++ m', by rw [List.append_assoc], fun p hp => ?_⟩
  rcases List.mem_append.mp hp with z | z
  · exact hm p z
  · exact Classical.byContradiction fun q => e.there p q (hm' p z)
theorem Ext.keeps (e : Ext H ρ H1 ρ1) (s : SR G H ρ B S) : Keep G H ρ B H1 ρ1 B := by
  have nt : ∀ a o, H a = some o → ¬ Mut (some o) → a ∉ ρ := fun a o h n z => by
    have m := s.mut z
    rw [h] at m
    exact n m
  refine ⟨fun a vs h => ?_, fun a vs h => ⟨e.keep a _ h.1 h.2.1, e.old (by rw [h.1]; simp) h.2.1, h.2.2⟩, fun a vs h => ⟨e.keep a _ h.1 h.2.1, e.old (by rw [h.1]; simp) h.2.1, h.2.2⟩, fun a vs h => ?_, fun i a h => ?_⟩
  · rcases h with (h | ⟨o, h⟩) | h
    · exact .inl (.inl (e.keep a _ h (nt a _ h fun z => z)))
    · exact .inl (.inr ⟨o, e.keep a _ h (nt a _ h fun z => z)⟩)
    · exact .inr h
  · rcases h with ⟨o, h⟩ | h
    · exact .inl ⟨o, e.keep a _ h (nt a _ h fun z => z)⟩
    · exact .inr h
  · obtain ⟨m, rfl, _⟩ := e.new
    rw [List.getElem?_append_left (List.getElem?_eq_some_iff.mp h).1]
    exact h
/-- a new object that is not the store's -/
theorem Ext.laid {p : Addr} {o : HO} (h : H p = none) : Ext H ρ (upd H p o) ρ := by
  refine ⟨fun a o' e _ => ?_, fun a e => ?_, [], by simp, fun _ z => nomatch z⟩
  · rw [upd_ne (ne_of_none e h)]; exact e
  · by_cases z : a = p
    · rw [z, upd_same]; simp
    · rw [upd_ne z]; exact e
theorem VRf.mono {H' : Hp} {ρ' B' : List Addr} (k : Keep G H ρ B H' ρ' B') {fs : List (Str × D)} {gs : List (Str × V)} (h : VRf G H ρ B fs gs) : VRf G H' ρ' B' fs gs :=
  Paired.mapP h fun _ _ ⟨e, r⟩ => ⟨e, VR.mono k _ _ r⟩
/-- all of the store stands -/
theorem SR.same {H' : Hp} (s : SR G H ρ B S) (k : Keep G H ρ B H' ρ B) (same : ∀ a ∈ ρ, H' a = H a) (t : ∀ a ∈ B, H' a ≠ none) : SR G H' ρ B S := by
  refine ⟨s.len, s.nd, fun i o a e1 e2 => ?_, fun a h => ⟨t a h, (s.bt a h).2⟩⟩
  have hm : a ∈ ρ := List.mem_of_getElem? e2
  cases s.ob i o a e1 e2 with
  | lst h r => exact .lst (by rw [same a hm]; exact h) (VRs.mono k _ _ r)
  | dct h r => exact .dct (by rw [same a hm]; exact h) (VRk.mono k _ _ r)
  | ins h c r => exact .ins (by rw [same a hm]; exact h) c (r.mono k)
theorem SR.laid {p : Addr} {o : HO} (s : SR G H ρ B S) (h : H p = none) : SR G (upd H p o) ρ B S := by
  refine s.same ((Ext.laid (ρ := ρ) (o := o) h).keeps s) (fun a ha => upd_ne fun z => s.tracked ha (by rw [z]; exact h)) fun a ha => ?_
  exact (Ext.laid (ρ := ρ) (o := o) h).there a (s.bt a ha).1
/-- a new object goes to the store -/
theorem SR.push {p : Addr} {o : HO} {ob : Ob} (s : SR G H ρ B S) (h : H p = none) (hb : ObR G (upd H p o) (ρ ++ [p]) B ob p) : SR G (upd H p o) (ρ ++ [p]) B (S ++ [ob]) ∧ Ext H ρ (upd H p o) (ρ ++ [p]) := by
  have np : p ∉ ρ := fun z => s.tracked z h
  have ex : Ext H ρ (upd H p o) (ρ ++ [p]) := by
    refine ⟨fun a o' e _ => by rw [upd_ne (ne_of_none e h)]; exact e, fun a e => ?_, [p], rfl, fun q hq => by rw [List.mem_singleton.mp hq]; exact h⟩
    by_cases z : a = p
    · rw [z, upd_same]; simp
    · rw [upd_ne z]; exact e
  refine ⟨⟨by simp [s.len], ?_, fun i o' a e1 e2 => ?_, fun a ha => ⟨ex.there a (s.bt a ha).1, ex.old (s.bt a ha).1 (s.bt a ha).2⟩⟩, ex⟩
  · rw [List.nodup_append]
    exact ⟨s.nd, by simp, fun a ha b hb e => by rw [List.mem_singleton.mp hb] at e; exact np (e ▸ ha)⟩
  · by_cases hi : i < S.length
    · rw [List.getElem?_append_left hi] at e1
      rw [List.getElem?_append_left (by rw [s.len]; exact hi)] at e2
      have hm : a ∈ ρ := List.mem_of_getElem? e2
      have k := ex.keeps s
      have un : upd H p o a = H a := upd_ne fun z => np (z ▸ hm)
      cases s.ob i o' a e1 e2 with
      | lst h r => exact .lst (by rw [un]; exact h) (VRs.mono k _ _ r)
      | dct h r => exact .dct (by rw [un]; exact h) (VRk.mono k _ _ r)
      | ins h c r => exact .ins (by rw [un]; exact h) c (r.mono k)
    · have hl : i = S.length := by
        have := (List.getElem?_eq_some_iff.mp e1).1
        simp at this; omega
      subst hl
      rw [List.getElem?_append_right (Nat.le_refl _)] at e1
      rw [List.getElem?_append_right (by rw [s.len]; exact Nat.le_refl _), s.len] at e2
      simp at e1 e2
      subst e1; subst e2
      exact hb
/-- an object of the store is changed -/
theorem SR.write {i : Nat} {a : Addr} {o : HO} {ob ob0 : Ob} (s : SR G H ρ B S) (hi : ρ[i]? = some a) (h0 : S[i]? = some ob0) (mo : Mut (some o)) (hb : ∀ G' : Keep G H ρ B (upd H a o) ρ B, ObR G (upd H a o) ρ B ob a) :
    SR G (upd H a o) ρ B (S.set i ob) ∧ Ext H ρ (upd H a o) ρ := by
  have hm : a ∈ ρ := List.mem_of_getElem? hi
  have ex : Ext H ρ (upd H a o) ρ := by
    refine ⟨fun b o' e n => by rw [upd_ne (a := a) (b := b) (fun z => n (z ▸ hm))]; exact e, fun b e => ?_, [], by simp, fun _ z => nomatch z⟩
    by_cases z : b = a
    · rw [z, upd_same]; simp
    · rw [upd_ne z]; exact e
  have k := ex.keeps s
  refine ⟨⟨by rw [List.length_set]; exact s.len, s.nd, fun j o' b e1 e2 => ?_, fun b hb => ⟨ex.there b (s.bt b hb).1, (s.bt b hb).2⟩⟩, ex⟩
  by_cases hj : j = i
  · subst hj
    rw [hi] at e2; cases e2
    rw [List.getElem?_set_self (List.getElem?_eq_some_iff.mp h0).1] at e1
    cases e1
    exact hb k
  · rw [List.getElem?_set_ne (Ne.symm hj)] at e1
    have hba : b ≠ a := fun z => hj (by
      obtain ⟨l1, q1⟩ := List.getElem?_eq_some_iff.mp hi
      obtain ⟨l2, q2⟩ := List.getElem?_eq_some_iff.mp e2
      exact (List.getElem_inj s.nd).mp (q2.trans (z.trans q1.symm)))
    have un : upd H a o b = H b := upd_ne hba
    cases s.ob j o' b e1 e2 with
    | lst h r => exact .lst (by rw [un]; exact h) (VRs.mono k _ _ r)
    | dct h r => exact .dct (by rw [un]; exact h) (VRk.mono k _ _ r)
    | ins h c r => exact .ins (by rw [un]; exact h) c (r.mono k)

/-! ### looked at -/
/-- as VR, but a list or a dict at the top may be anybody's -/
inductive TR (G : Cr) (H : Hp) (ρ B : List Addr) : D → V → Prop
  | of {d : D} {v : V} : VR G H ρ B d v → TR G H ρ B d v
  | lst {a : Addr} {ds : List D} {vs : List V} : H a = some (.lst vs) → VRs G H ρ B ds vs → TR G H ρ B (.lst ds) (.ref a)
  | dct {a : Addr} {ds : List (Key × D)} {vs : List (Key × V)} : H a = some (.dK vs) → VRk G H ρ B ds vs → TR G H ρ B (.dct ds) (.ref a)
theorem TR.top {d : D} {v : V} (t : TR G H ρ B d v) (s : SR G H ρ B S) : TR G H ρ B (top S d) v := by
  cases d with
  | ref i =>
    cases t with
    | of r =>
      cases r with
      | ref e =>
        show TR G H ρ B (match S[i]? with | some (.lst xs) => .lst xs | some (.dct kvs) => .dct kvs | _ => .ref i) _
        split
        · rename_i xs q
          cases s.ob i _ _ q e with
          | lst h r => exact .lst h r
        · rename_i xs q
          cases s.ob i _ _ q e with
          | dct h r => exact .dct h r
        · exact .of (.ref e)
  | _ => exact t
theorem TR.lstOf {ds : List D} {v : V} (t : TR G H ρ B (.lst ds) v) : ∃ a vs, v = .ref a ∧ H a = some (.lst vs) ∧ VRs G H ρ B ds vs := by
  cases t with
  | of r => cases r with | lst h q => exact ⟨_, _, rfl, h.1, q⟩
  | lst h q => exact ⟨_, _, rfl, h, q⟩
theorem TR.dctOf {ds : List (Key × D)} {v : V} (t : TR G H ρ B (.dct ds) v) : ∃ a vs, v = .ref a ∧ H a = some (.dK vs) ∧ VRk G H ρ B ds vs := by
  cases t with
  | of r => cases r with | dct h q => exact ⟨_, _, rfl, h.1, q⟩
  | dct h q => exact ⟨_, _, rfl, h, q⟩
theorem TR.tupOf {ds : List D} {v : V} (t : TR G H ρ B (.tup ds) v) : ∃ a vs, v = .ref a ∧ SqT G.K H a vs ∧ VRs G H ρ B ds vs := by
  cases t with
  | of r => cases r with | tup h q => exact ⟨_, _, rfl, h, q⟩
theorem TR.intOf {i : Int} {v : V} (t : TR G H ρ B (.int i) v) : v = .int i := by
  cases t with
  | of r => cases r; rfl
theorem TR.blOf {i : Bool} {v : V} (t : TR G H ρ B (.bl i) v) : v = .bl i := by
  cases t with
  | of r => cases r; rfl
theorem TR.strOf {i : Str} {v : V} (t : TR G H ρ B (.str i) v) : v = .str i := by
  cases t with
  | of r => cases r; rfl
theorem TR.nonOf {v : V} (t : TR G H ρ B .non v) : v = .non := by
  cases t with
  | of r => cases r; rfl
end
/-- an operand that is looked at: a value, or an owned list or dict of this frame -/
inductive PR (G : Cr) (H : Hp) (ρ B : List Addr) : D → V → Prop
  | of {d : D} {v : V} : VR G H ρ B d v → PR G H ρ B d v
  | ol {a : Addr} {ds : List D} {vs : List V} : a ∈ B → H a = some (.lst vs) → VRs G H ρ B ds vs → PR G H ρ B (.lst ds) (.ref a)
  | od {a : Addr} {ds : List (Key × D)} {vs : List (Key × V)} : a ∈ B → H a = some (.dK vs) → VRk G H ρ B ds vs → PR G H ρ B (.dct ds) (.ref a)
theorem PR.tr {G : Cr} {H : Hp} {ρ B : List Addr} {d : D} {v : V} (t : PR G H ρ B d v) : TR G H ρ B d v := by
  cases t with
  | of r => exact .of r
  | ol _ h r => exact .lst h r
  | od _ h r => exact .dct h r
theorem PR.ext {G : Cr} {H H1 : Hp} {ρ ρ1 B : List Addr} {S : Sto} {d : D} {v : V} (s : SR G H ρ B S) (e : Ext H ρ H1 ρ1) (t : PR G H ρ B d v) : PR G H1 ρ1 B d v := by
  have k := e.keeps s
  cases t with
  | of r => exact .of (VR.mono k _ _ r)
  | ol hb h r => exact .ol hb (e.keep _ _ h (s.bt _ hb).2) (VRs.mono k _ _ r)
  | od hb h r => exact .od hb (e.keep _ _ h (s.bt _ hb).2) (VRk.mono k _ _ r)
theorem PR.top {G : Cr} {H : Hp} {ρ B : List Addr} {S : Sto} {d : D} {v : V} (s : SR G H ρ B S) (t : PR G H ρ B d v) : TR G H ρ B (Wf.top S d) v := t.tr.top s
inductive PRs (G : Cr) (H : Hp) (ρ B : List Addr) : List D → List V → Prop
  | nil : PRs G H ρ B [] []
  | cons {d : D} {v : V} {ds : List D} {vs : List V} : PR G H ρ B d v → PRs G H ρ B ds vs → PRs G H ρ B (d :: ds) (v :: vs)
inductive TRs (G : Cr) (H : Hp) (ρ B : List Addr) : List D → List V → Prop
  | nil : TRs G H ρ B [] []
  | cons {d : D} {v : V} {ds : List D} {vs : List V} : TR G H ρ B d v → TRs G H ρ B ds vs → TRs G H ρ B (d :: ds) (v :: vs)
theorem PRs.ext {G : Cr} {H H1 : Hp} {ρ ρ1 B : List Addr} {S : Sto} (s : SR G H ρ B S) (e : Ext H ρ H1 ρ1) : ∀ {ds : List D} {vs : List V}, PRs G H ρ B ds vs → PRs G H1 ρ1 B ds vs
  | _, _, .nil => .nil
  | _, _, .cons t r => .cons (t.ext s e) (PRs.ext s e r)
theorem PRs.top {G : Cr} {H : Hp} {ρ B : List Addr} {S : Sto} (s : SR G H ρ B S) : ∀ {ds : List D} {vs : List V}, PRs G H ρ B ds vs → TRs G H ρ B (ds.map (Wf.top S)) vs
  | _, _, .nil => .nil
  | _, _, .cons t r => .cons (t.top s) (PRs.top s r)
theorem VRs.ext {G : Cr} {H H1 : Hp} {ρ ρ1 B : List Addr} {S : Sto} (s : SR G H ρ B S) (e : Ext H ρ H1 ρ1) {ds : List D} {vs : List V} (r : VRs G H ρ B ds vs) : VRs G H1 ρ1 B ds vs := VRs.mono (e.keeps s) _ _ r
theorem VR.ext {G : Cr} {H H1 : Hp} {ρ ρ1 B : List Addr} {S : Sto} (s : SR G H ρ B S) (e : Ext H ρ H1 ρ1) {d : D} {v : V} (r : VR G H ρ B d v) : VR G H1 ρ1 B d v := VR.mono (e.keeps s) _ _ r

/-! ### the frame's slots -/
inductive SlR (G : Cr) (H : Hp) (ρ B B0 : List Addr) (σ : St) (i : Nat) : Sl → Prop
  | un : SlR G H ρ B B0 σ i .un
  | fz {d : D} {v : V} : σ[i]? = some (some v) → VR G H ρ B d v → SlR G H ρ B B0 σ i (.fz d)
  | ol {a : Addr} {ds : List D} {vs : List V} : σ[i]? = some (some (.ref a)) → a ∈ B → a ∉ B0 → H a = some (.lst vs) → VRs G H ρ B ds vs → SlR G H ρ B B0 σ i (.ol ds)
  | od {a : Addr} {ds : List (Key × D)} {vs : List (Key × V)} : σ[i]? = some (some (.ref a)) → a ∈ B → a ∉ B0 → H a = some (.dK vs) → VRk G H ρ B ds vs → SlR G H ρ B B0 σ i (.od ds)
def isOwn : Sl → Bool
  | .ol _ => true
  | .od _ => true
  | _ => false
structure ER (G : Cr) (H : Hp) (ρ B B0 : List Addr) (σ : St) (env : Env) : Prop where
  len : σ.length = env.length
  sl : ∀ (i : Nat) (x : Sl), env[i]? = some x → SlR G H ρ B B0 σ i x
  apart : ∀ (i j : Nat) (x y : Sl) (a : Addr), env[i]? = some x → env[j]? = some y → isOwn x = true → isOwn y = true → σ[i]? = some (some (.ref a)) → σ[j]? = some (some (.ref a)) → i = j
theorem SlR.ext {G : Cr} {H H1 : Hp} {ρ ρ1 B B0 : List Addr} {S : Sto} {σ : St} {i : Nat} {x : Sl} (s : SR G H ρ B S) (e : Ext H ρ H1 ρ1) (t : SlR G H ρ B B0 σ i x) : SlR G H1 ρ1 B B0 σ i x := by
  have k := e.keeps s
  cases t with
  | un => exact .un
  | fz h r => exact .fz h (VR.mono k _ _ r)
  | ol h hb hn hh r => exact .ol h hb hn (e.keep _ _ hh (s.bt _ hb).2) (VRs.mono k _ _ r)
  | od h hb hn hh r => exact .od h hb hn (e.keep _ _ hh (s.bt _ hb).2) (VRk.mono k _ _ r)
theorem ER.ext {G : Cr} {H H1 : Hp} {ρ ρ1 B B0 : List Addr} {S : Sto} {σ : St} {env : Env} (s : SR G H ρ B S) (e : Ext H ρ H1 ρ1) (t : ER G H ρ B B0 σ env) : ER G H1 ρ1 B B0 σ env :=
  ⟨t.len, fun i x h => (t.sl i x h).ext s e, t.apart⟩
theorem ER.get {G : Cr} {H : Hp} {ρ B B0 : List Addr} {σ : St} {env : Env} {i : Nat} {d : D} (t : ER G H ρ B B0 σ env) (h : getS env i = some d) : ∃ v, σ[i]? = some (some v) ∧ VR G H ρ B d v := by
  unfold getS at h
  split at h
  · rename_i d' q
    cases h
    cases t.sl i _ q with
    | fz e r => exact ⟨_, e, r⟩
  · cases h
theorem ER.peek {G : Cr} {H : Hp} {ρ B B0 : List Addr} {σ : St} {env : Env} {i : Nat} {d : D} (t : ER G H ρ B B0 σ env) (h : peekS env i = some d) : ∃ v, σ[i]? = some (some v) ∧ PR G H ρ B d v := by
  unfold peekS at h
  split at h
  · rename_i d' q
    cases h
    cases t.sl i _ q with
    | fz e r => exact ⟨_, e, .of r⟩
  · rename_i d' q
    cases h
    cases t.sl i _ q with
    | ol e hb _ hh r => exact ⟨_, e, .ol hb hh r⟩
  · rename_i d' q
    cases h
    cases t.sl i _ q with
    | od e hb _ hh r => exact ⟨_, e, .od hb hh r⟩
  · cases h
end Wf
set_option Elab.async false
set_option linter.all false
namespace Wf
open PySem L2

/-! ### operations by values -/
def rSem2 (G : Cr) (f : D → D → Option D) : R2 := fun x y H Q => ∃ ρ B S a b d, SR G H ρ B S ∧ TR G H ρ B a x ∧ TR G H ρ B b y ∧ f a b = some d ∧ ∀ v H', Ext H ρ H' ρ → SR G H' ρ B S → VR G H' ρ B d v → Q v H'
section
variable {X : Cx} {G : Cr} {H : Hp} {ρ B : List Addr} {S : Sto}
theorem new_lst {ds : List D} {vs : List V} {p : Addr} {Q : VK} (s : SR G H ρ B S) (r : VRs G H ρ B ds vs) (h : H p = none) (q : ∀ v H', Ext H ρ H' ρ → SR G H' ρ B S → VR G H' ρ B (.lst ds) v → Q v H') : Q (.ref p) (upd H p (.lst vs)) :=
  q _ _ (Ext.laid h) (s.laid h) (.lst ⟨upd_same, fun z => s.tracked z h, fun z => (s.bt p z).1 h⟩ (r.ext s (Ext.laid h)))
theorem new_tup {ds : List D} {vs : List V} {p : Addr} {Q : VK} (s : SR G H ρ B S) (r : VRs G H ρ B ds vs) (h : H p = none) (q : ∀ v H', Ext H ρ H' ρ → SR G H' ρ B S → VR G H' ρ B (.tup ds) v → Q v H') : Q (.ref p) (upd H p (.tup vs)) :=
  q _ _ (Ext.laid h) (s.laid h) (.tup (SqT.of upd_same) (r.ext s (Ext.laid h)))
theorem bin_ok (hK : X.K = G.K) (op : Operator) : OpR X (binaryOp op) (rSem2 G (semBin op)) := by
  intro pins s σ H x y v u Q I rx ry h
  obtain ⟨ρ, B, S, a, b, d, sr, ta, tb, e, q⟩ := h
  unfold semBin at e
  split at e
  · cases e
    cases ta.intOf
    cases tb.intOf
    exact op_add pins s σ H _ _ v u Q I rx ry ⟨_, _, rfl, rfl, q _ _ Ext.refl sr (.int _)⟩
  · rename_i xs ys
    split at e
    · rename_i hz
      cases e
      obtain ⟨a1, vs, rfl, h1, r1⟩ := ta.tupOf
      obtain ⟨a2, us, rfl, h2, r2⟩ := tb.tupOf
      refine op_catA pins s σ H _ _ v u Q I rx ry ⟨a1, a2, vs, us, rfl, rfl, by rw [hK]; exact h1, by rw [hK]; exact h2, by rw [r1.length, r2.length]; exact hz, fun e => ?_, fun _ e => ?_, fun _ _ p hp => new_tup sr (r1.append r2) hp q⟩
      · subst e
        cases r1
        exact q _ _ Ext.refl sr (.tup h2 r2)
      · subst e
        cases r2
        rw [List.append_nil] at q
        exact q _ _ Ext.refl sr (.tup h1 r1)
    · cases e
  · rename_i xs ys
    split at e
    · rename_i hz
      cases e
      obtain ⟨a1, vs, rfl, h1, r1⟩ := ta.lstOf
      obtain ⟨a2, us, rfl, h2, r2⟩ := tb.lstOf
      exact op_cat pins s σ H _ _ v u Q I rx ry ⟨a1, a2, vs, us, rfl, rfl, h1, h2, by rw [r1.length, r2.length]; exact hz, fun p hp => new_lst sr (r1.append r2) hp q⟩
    · cases e
  · cases e
    cases ta.intOf
    cases tb.intOf
    exact op_sub pins s σ H _ _ v u Q I rx ry ⟨_, _, rfl, rfl, q _ _ Ext.refl sr (.int _)⟩
  · split at e
    · rename_i hz
      cases e
      cases ta.intOf
      cases tb.intOf
      exact op_mul pins s σ H _ _ v u Q I rx ry ⟨_, _, rfl, rfl, hz, q _ _ Ext.refl sr (.int _)⟩
    · cases e
  · rename_i xs k
    split at e
    · rename_i hz
      cases e
      obtain ⟨a1, vs, rfl, h1, r1⟩ := ta.lstOf
      cases tb.intOf
      exact op_rep pins s σ H _ _ v u Q I rx ry ⟨a1, k, vs, rfl, rfl, h1, by have := hz.1; omega, hz.2.1, by rw [r1.length]; exact hz.2.2, fun p hp => new_lst sr (r1.flat _) hp q⟩
    · cases e
  · split at e
    · rename_i hz
      cases e
      cases ta.intOf
      cases tb.intOf
      exact op_fdiv pins s σ H _ _ v u Q I rx ry ⟨_, _, rfl, rfl, hz, q _ _ Ext.refl sr (.int _)⟩
    · cases e
  · split at e
    · rename_i hz
      cases e
      cases ta.intOf
      cases tb.intOf
      exact op_mod pins s σ H _ _ v u Q I rx ry ⟨_, _, rfl, rfl, hz, q _ _ Ext.refl sr (.int _)⟩
    · cases e
  · split at e
    · rename_i hz
      cases e
      cases ta.intOf
      cases tb.intOf
      exact op_pow pins s σ H _ _ v u Q I rx ry ⟨_, _, rfl, rfl, hz, q _ _ Ext.refl sr (.int _)⟩
    · cases e
  · cases e

mutual
theorem VR.dp : ∀ (d : D) (v : V) (p : PyData), VR G H ρ B d v → d.pd = some p → Dp G.K H v p
  | .non, _, _, .non, e => by cases e; exact .non
  | .bl _, _, _, .bl b, e => by cases e; exact .bl b
  | .int _, _, _, .int i, e => by cases e; exact .int i
  | .str _, _, _, .str x, e => by cases e; exact .str x
  | .tup ds, _, p, .tup (vs := vs) q r, e => by
    rw [D.pd] at e
    obtain ⟨ps, e1, e2⟩ := Option.map_eq_some_iff.mp e
    subst e2
    exact .tup q (VRs.dp ds vs ps r e1)
  | .lst ds, _, p, .lst (vs := vs) q r, e => by
    rw [D.pd] at e
    obtain ⟨ps, e1, e2⟩ := Option.map_eq_some_iff.mp e
    subst e2
    exact .lst (SqL.of q.1) (VRs.dp ds vs ps r e1)
  | .dct _, _, _, _, e => by rw [D.pd] at e; cases e
  | .ref _, _, _, _, e => by rw [D.pd] at e; cases e
  | .scr _, _, _, _, e => by rw [D.pd] at e; cases e
  | .kdc _, _, _, _, e => by rw [D.pd] at e; cases e
theorem VRs.dp : ∀ (ds : List D) (vs : List V) (ps : List PyData), VRs G H ρ B ds vs → pdAll ds = some ps → DpAll G.K H vs ps
  | [], _, _, .nil, e => by cases e; exact .nil
  | d :: ds, _, ps, .cons (v := v) (vs := vs) q r, e => by
    rw [pdAll] at e
    split at e
    · rename_i p qs e1 e2
      cases e
      exact .cons (VR.dp d v p q e1) (VRs.dp ds vs qs r e2)
    · cases e
end
theorem TR.dp {d : D} {v : V} {p : PyData} (t : TR G H ρ B d v) (e : d.pd = some p) : Dp G.K H v p := by
  cases t with
  | of r => exact VR.dp _ _ _ r e
  | lst h r =>
    rw [D.pd] at e
    obtain ⟨ps, e1, e2⟩ := Option.map_eq_some_iff.mp e
    subst e2
    exact .lst (SqL.of h) (VRs.dp _ _ ps r e1)
  | dct h r => rw [D.pd] at e; cases e
theorem TR.isN {d : D} {v : V} (t : TR G H ρ B d v) : decide (v = .non) = isNon d := by
  cases t with
  | of r => cases r <;> rfl
  | lst h r => rfl
  | dct h r => rfl
theorem cmp_ok (hK : X.K = G.K) (hu : X.A.units + 64 < cLine) (op : CmpOp) : OpR X (compareOp op) (rSem2 G fun a b => (semCmp op a b).map D.bl) := by
  intro pins s σ H x y v u Q I rx ry h
  obtain ⟨ρ, B, S, a, b, d, sr, ta, tb, e0, q⟩ := h
  obtain ⟨k, e, rfl⟩ := Option.map_eq_some_iff.mp e0
  clear e0
  have fin : ∀ {k' : Bool}, k = k' → Q (.bl k') H := fun z => by subst z; exact q _ _ Ext.refl sr (.bl _)
  unfold semCmp at e
  split at e
  · cases ta.intOf; cases tb.intOf
    exact op_lt pins s σ H _ _ v u Q I rx ry ⟨_, _, rfl, rfl, fin (Option.some.inj e).symm⟩
  · cases ta.intOf; cases tb.intOf
    exact op_le pins s σ H _ _ v u Q I rx ry ⟨_, _, rfl, rfl, fin (Option.some.inj e).symm⟩
  · cases ta.intOf; cases tb.intOf
    exact op_gt pins s σ H _ _ v u Q I rx ry ⟨_, _, rfl, rfl, fin (Option.some.inj e).symm⟩
  · cases ta.intOf; cases tb.intOf
    exact op_ge pins s σ H _ _ v u Q I rx ry ⟨_, _, rfl, rfl, fin (Option.some.inj e).symm⟩
  · cases ta.intOf; cases tb.intOf
    exact op_eq pins s σ H _ _ v u Q I rx ry ⟨rfl, fin ((Option.some.inj e).symm.trans (Bool.eq_iff_iff.mpr (by simp)))⟩
  · cases ta.intOf; cases tb.intOf
    exact op_ne pins s σ H _ _ v u Q I rx ry ⟨rfl, fin ((Option.some.inj e).symm.trans (congrArg not (Bool.eq_iff_iff.mpr (by simp))))⟩
  · cases ta.strOf; cases tb.strOf
    exact op_eq pins s σ H _ _ v u Q I rx ry ⟨rfl, fin ((Option.some.inj e).symm.trans (Bool.eq_iff_iff.mpr (by simp)))⟩
  · cases ta.strOf; cases tb.strOf
    exact op_ne pins s σ H _ _ v u Q I rx ry ⟨rfl, fin ((Option.some.inj e).symm.trans (congrArg not (Bool.eq_iff_iff.mpr (by simp))))⟩
  · unfold semEq at e
    split at e
    · rename_i p1 p2 e1 e2
      split at e
      · rename_i hs
        rw [Bool.and_eq_true] at hs
        exact op_eqD hu pins s σ H _ _ v u Q I rx ry ⟨p1, p2, by rw [hK]; exact ta.dp e1, by rw [hK]; exact tb.dp e2, hs.1, hs.2, fin (Option.some.inj e).symm⟩
      · cases e
    · cases e
  · obtain ⟨k', e1, rfl⟩ := Option.map_eq_some_iff.mp e
    clear e
    have e := e1
    clear e1
    unfold semEq at e
    split at e
    · rename_i p1 p2 e1 e2
      split at e
      · rename_i hs
        rw [Bool.and_eq_true] at hs
        exact op_neD hu pins s σ H _ _ v u Q I rx ry ⟨p1, p2, by rw [hK]; exact ta.dp e1, by rw [hK]; exact tb.dp e2, hs.1, hs.2, fin (congrArg not (Option.some.inj e).symm)⟩
      · cases e
    · cases e
  · cases tb.nonOf
    exact op_isN pins s σ H _ _ v u Q I rx ry ⟨rfl, fin (by rw [ta.isN]; exact (Option.some.inj e).symm)⟩
  · cases tb.nonOf
    exact op_notN pins s σ H _ _ v u Q I rx ry ⟨rfl, fin (by rw [ta.isN]; exact (Option.some.inj e).symm)⟩
  · cases e

/-! ### built-in functions and types -/
def biName : Bi → Str
  | .len => "len" | .abs => "abs" | .min => "min" | .max => "max" | .int => "int" | .tuple => "tuple" | .list => "list" | .sum => "sum" | .any => "any" | .all => "all" | .repr => "repr"
def biVal : Bi → Value
  | .len => .builtin "len" | .abs => .builtin "abs" | .min => .builtin "min" | .max => .builtin "max" | .int => .type "int" | .tuple => .type "tuple" | .list => .type "list" | .sum => .builtin "sum" | .any => .builtin "any" | .all => .builtin "all" | .repr => .builtin "repr"
def rBi (G : Cr) (f : Bi) : List V → Hp → VK → Prop := fun xs H Q => ∃ ρ B S ds d, SR G H ρ B S ∧ TRs G H ρ B ds xs ∧ semBi f ds = some d ∧ ∀ v H', Ext H ρ H' ρ → SR G H' ρ B S → VR G H' ρ B d v → Q v H'
theorem TRs.one {d : D} {xs : List V} (t : TRs G H ρ B [d] xs) : ∃ x, xs = [x] ∧ TR G H ρ B d x := by
  cases t with
  | cons a b => cases b; exact ⟨_, rfl, a⟩
theorem TRs.two {d e : D} {xs : List V} (t : TRs G H ρ B [d, e] xs) : ∃ x y, xs = [x, y] ∧ TR G H ρ B d x ∧ TR G H ρ B e y := by
  cases t with
  | cons a b => cases b with | cons b c => cases c; exact ⟨_, _, rfl, a, b⟩
theorem call_repr_any {pins : List (Addr × Obj)} {s : Shared} {σ : St} {p : PyData} {x : V} {u : Value} {Q : VK} (hK : X.K = G.K) (hg : X.A.guards = some []) (hu : X.A.units + 66 < cLine) (I : Inv X pins σ H s) (r : RelV x u) (hd : Dp X.K H x p)
    (h1 : p.showable = true) (h2 : p.shown.length ≤ sizeLine) (h3 : p.depth ≤ 64) (h4 : p.hasDict = false) (q : Q (.str p.shown) H) : wpAny (model X.prog X.w) X.A (call (.builtin "repr") [u]) (EP X pins σ Q) X.xe s := by
  cases hd with
  | non => cases r; exact PySem.P.repr_of_none ⟨.str _, H, I.tok _, ⟨_, rfl⟩, q⟩
  | bl b => cases r; exact PySem.P.repr_of_bool ⟨.str _, H, I.tok _, ⟨_, rfl⟩, by cases b <;> exact q⟩
  | int i => obtain ⟨t, rfl⟩ := r; exact PySem.P.repr_of_int (by simpa [PyData.showable] using h1) ⟨.str _, H, I.tok _, ⟨_, rfl⟩, q⟩
  | str y => obtain ⟨t, rfl⟩ := r; exact PySem.P.repr_of_str ⟨.str _, H, I.tok _, ⟨_, rfl⟩, q⟩ h2
  | @lst a xs ds hl hr =>
    cases r
    obtain ⟨as, rd⟩ := Dp.reads I _ (.ref a) _ (.lst hl hr) rfl
    exact repr_of_reads' rd h1 (fun z => by rw [h4] at z; cases z) hg (by omega) (fun _ _ e => e) (fun h' u tk kp => ⟨.str _, H, I.kept kp, ⟨_, rfl⟩, q⟩) h2
  | @tup a xs ds hl hr =>
    cases r
    obtain ⟨as, rd⟩ := Dp.reads I _ (.ref a) _ (.tup hl hr) rfl
    exact repr_of_reads' rd h1 (fun z => by rw [h4] at z; cases z) hg (by omega) (fun _ _ e => e) (fun h' u tk kp => ⟨.str _, H, I.kept kp, ⟨_, rfl⟩, q⟩) h2
mutual
theorem pd_noDict : ∀ (d : D) (p : PyData), d.pd = some p → p.hasDict = false
  | .non, _, e => by cases e; rfl
  | .bl _, _, e => by cases e; rfl
  | .int _, _, e => by cases e; rfl
  | .str _, _, e => by cases e; rfl
  | .tup ds, p, e => by
    rw [D.pd] at e
    obtain ⟨ps, e1, e2⟩ := Option.map_eq_some_iff.mp e
    subst e2
    exact pdAll_noDict ds ps e1
  | .lst ds, p, e => by
    rw [D.pd] at e
    obtain ⟨ps, e1, e2⟩ := Option.map_eq_some_iff.mp e
    subst e2
    exact pdAll_noDict ds ps e1
  | .dct _, _, e => by rw [D.pd] at e; cases e
  | .ref _, _, e => by rw [D.pd] at e; cases e
  | .scr _, _, e => by rw [D.pd] at e; cases e
  | .kdc _, _, e => by rw [D.pd] at e; cases e
theorem pdAll_noDict : ∀ (ds : List D) (ps : List PyData), pdAll ds = some ps → PyData.hasDictAll ps = false
  | [], _, e => by cases e; rfl
  | d :: ds, ps, e => by
    rw [pdAll] at e
    split at e
    · rename_i p qs e1 e2
      cases e
      show (p.hasDict || PyData.hasDictAll qs) = false
      rw [pd_noDict d p e1, pdAll_noDict ds qs e2]
      rfl
    · cases e
end
theorem bi_ok (hK : X.K = G.K) (hc : X.calm = true) (hg : X.A.guards = some []) (hu : X.A.units + 66 < cLine) (f : Bi) : CallR X (biVal f) (rBi G f) := by
  intro pins s σ H xs us Q I r h
  obtain ⟨ρ, B, S, ds, d, sr, ts, e, q⟩ := h
  unfold semBi at e
  split at e
  · obtain ⟨x, rfl, t⟩ := ts.one
    cases e
    obtain ⟨a, vs, rfl, h1, r1⟩ := t.lstOf
    exact call_len pins s σ H _ us Q I r ⟨_, _, rfl, .inl ⟨vs, SqL.of h1, rfl⟩, by rw [r1.length]; exact q _ _ Ext.refl sr (.int _)⟩
  · obtain ⟨x, rfl, t⟩ := ts.one
    cases e
    obtain ⟨a, vs, rfl, h1, r1⟩ := t.tupOf
    exact call_len pins s σ H _ us Q I r ⟨_, _, rfl, .inr ⟨vs, by rw [hK]; exact h1, rfl⟩, by rw [r1.length]; exact q _ _ Ext.refl sr (.int _)⟩
  · obtain ⟨x, rfl, t⟩ := ts.one
    cases e
    cases t.intOf
    exact call_abs pins s σ H _ us Q I r ⟨_, rfl, q _ _ Ext.refl sr (.int _)⟩
  · obtain ⟨x, y, rfl, t1, t2⟩ := ts.two
    cases e
    cases t1.intOf; cases t2.intOf
    exact call_min2 hc pins s σ H _ us Q I r ⟨_, _, rfl, q _ _ Ext.refl sr (.int _)⟩
  · obtain ⟨x, y, rfl, t1, t2⟩ := ts.two
    cases e
    cases t1.intOf; cases t2.intOf
    exact call_max2 hc pins s σ H _ us Q I r ⟨_, _, rfl, q _ _ Ext.refl sr (.int _)⟩
  · obtain ⟨x, rfl, t⟩ := ts.one
    cases e
    cases t.blOf
    exact call_int1 pins s σ H _ us Q I r (.inr ⟨_, rfl, q _ _ Ext.refl sr (.int _)⟩)
  · obtain ⟨x, rfl, t⟩ := ts.one
    cases e
    cases t.intOf
    exact call_int1 pins s σ H _ us Q I r (.inl ⟨_, rfl, q _ _ Ext.refl sr (.int _)⟩)
  · obtain ⟨x, rfl, t⟩ := ts.one
    cases e
    obtain ⟨a, vs, rfl, h1, r1⟩ := t.lstOf
    exact call_tuple_of pins s σ H _ us Q I r ⟨_, _, rfl, .inl ⟨SqL.of h1, fun p hp => new_tup sr r1 hp q⟩⟩
  · obtain ⟨x, rfl, t⟩ := ts.one
    cases e
    obtain ⟨a, vs, rfl, h1, r1⟩ := t.tupOf
    exact call_tuple_of pins s σ H _ us Q I r ⟨_, _, rfl, .inr ⟨by rw [hK]; exact h1, q _ _ Ext.refl sr (.tup h1 r1)⟩⟩
  · obtain ⟨x, rfl, t⟩ := ts.one
    cases e
    obtain ⟨a, vs, rfl, h1, r1⟩ := t.lstOf
    exact call_list_of pins s σ H _ us Q I r ⟨_, _, rfl, .inl (SqL.of h1), fun p hp => new_lst sr r1 hp q⟩
  · obtain ⟨x, rfl, t⟩ := ts.one
    cases e
    obtain ⟨a, vs, rfl, h1, r1⟩ := t.tupOf
    exact call_list_of pins s σ H _ us Q I r ⟨_, _, rfl, .inr (by rw [hK]; exact h1), fun p hp => new_lst sr r1 hp q⟩
  · obtain ⟨x, rfl, t⟩ := ts.one
    obtain ⟨ns, e1, rfl⟩ := Option.map_eq_some_iff.mp e
    obtain ⟨a, vs, rfl, h1, r1⟩ := t.lstOf
    rw [r1.ints e1] at h1
    exact cr_sum hc pins s σ H _ us Q I r ⟨a, ns, rfl, SqL.of h1, q _ _ Ext.refl sr (.int _)⟩
  · obtain ⟨x, rfl, t⟩ := ts.one
    obtain ⟨ns, e1, rfl⟩ := Option.map_eq_some_iff.mp e
    obtain ⟨a, vs, rfl, h1, r1⟩ := t.lstOf
    rw [r1.bools e1] at h1
    exact cr_any hc pins s σ H _ us Q I r ⟨a, ns, rfl, SqL.of h1, q _ _ Ext.refl sr (.bl _)⟩
  · obtain ⟨x, rfl, t⟩ := ts.one
    obtain ⟨ns, e1, rfl⟩ := Option.map_eq_some_iff.mp e
    obtain ⟨a, vs, rfl, h1, r1⟩ := t.lstOf
    rw [r1.bools e1] at h1
    exact cr_all hc pins s σ H _ us Q I r ⟨a, ns, rfl, SqL.of h1, q _ _ Ext.refl sr (.bl _)⟩
  · obtain ⟨x, rfl, t⟩ := ts.one
    split at e
    · rename_i p ep
      split at e
      · rename_i hz
        simp only [Bool.and_eq_true, decide_eq_true_eq] at hz
        cases e
        obtain ⟨u, rfl, ru⟩ := vals1 r
        exact call_repr_any hK hg hu I ru (by rw [hK]; exact t.dp ep) hz.1.1 hz.1.2 hz.2 (pd_noDict _ _ ep) (q _ _ Ext.refl sr (.str _))
      · cases e
    · cases e
  · cases e

/-! ### subscripts -/
theorem ixN_of {α β : Type} {xs : List α} {ys : List β} {i : Int} (h : xs.length = ys.length) : ixN xs.length i = ixN ys.length i := by rw [h]
theorem VRs.atI {ds : List D} {vs : List V} {i : Int} {d : D} (r : VRs G H ρ B ds vs) (e : L2.atI ds i = some d) : ∃ v, L2.atI vs i = some v ∧ VR G H ρ B d v := by
  unfold L2.atI at e ⊢
  rw [r.length]
  cases q : ixN ds.length i with
  | none => rw [q] at e; cases e
  | some j =>
    rw [q] at e
    exact r.get e
theorem vsc_vr {d : D} {v : V} (h : VSc d v) : VR G H ρ B d v := by
  cases d <;> first | (cases h; constructor) | exact False.elim h
theorem ix_ok (hK : X.K = G.K) (hw : X.w = G.w) (hu : X.A.units + 1 < cLine) : IxR X (rSem2 G semIx) := by
  intro value slice pins s σ H x y v u Q I rx ry h hs
  obtain ⟨ρ, B, S, a, b, d, sr, ta, tb, e, q⟩ := h
  unfold semIx at e
  split at e
  · obtain ⟨a1, vs, rfl, h1, r1⟩ := ta.lstOf
    cases tb.intOf
    obtain ⟨z, e1, rz⟩ := r1.atI e
    exact ix_list value slice pins s σ H _ _ v u Q I rx ry ⟨_, _, _, _, rfl, rfl, SqL.of h1, e1, q _ _ Ext.refl sr rz⟩ hs
  · obtain ⟨a1, vs, rfl, h1, r1⟩ := ta.tupOf
    cases tb.intOf
    obtain ⟨z, e1, rz⟩ := r1.atI e
    exact ix_tup value slice pins s σ H _ _ v u Q I rx ry ⟨_, _, _, _, rfl, rfl, by rw [hK]; exact h1, e1, q _ _ Ext.refl sr rz⟩ hs
  · rename_i kvs
    split at e
    · rename_i k' ek
      obtain ⟨a1, vs, rfl, h1, r1⟩ := ta.dctOf
      obtain ⟨z, e1, rz⟩ := r1.lk e
      have hy : y = kV k' := by
        cases b with
        | int i => cases ek; exact tb.intOf
        | str i => cases ek; exact tb.strOf
        | _ => cases ek
      subst hy
      cases rx
      have g : DGet H a1 (kV k') (some z) := by rw [← e1]; exact DGet.k h1
      exact PyProof.Rows.tail_any (dict_typeIs I g) PySem.F.slot_dict_getitem.lookup (d_getItem hu I g ry fun w' s' I' rw' => ⟨z, H, I', rw', q _ _ Ext.refl sr rz⟩) hs
    · cases e
  · rename_i kvs z
    cases tb.strOf
    cases ta with
    | of r =>
      cases r with
      | kdc kd =>
        obtain ⟨es, n, h1, h2, _, h3, _⟩ := kd
        obtain ⟨u0, v0, e1, e2, e3⟩ := h3 _ _ e
        exact ix_kdict value slice pins s σ H _ _ v u Q I rx ry ⟨_, _, _, rfl, rfl, ⟨es, n, u0, by rw [hK]; exact h1, by rw [hw]; exact h2, by rw [hK]; exact e1, e2⟩, q _ _ Ext.refl sr (vsc_vr e3)⟩ hs
  · cases e
end
end Wf
set_option Elab.async false
set_option linter.all false
namespace Wf
open PySem L2

/-! ### readings by the evaluator -/
/-- a new object's content -/
inductive FO (G : Cr) (H : Hp) (ρ B : List Addr) : D → HO → Prop
  | lst {ds : List D} {vs : List V} : VRs G H ρ B ds vs → FO G H ρ B (.lst ds) (.lst vs)
  | dct {ds : List (Key × D)} {vs : List (Key × V)} : VRk G H ρ B ds vs → FO G H ρ B (.dct ds) (.dK vs)
def isT : D → Bool
  | .tup _ => true
  | _ => false
/-- the end of what makes a list or a dict (or, of tuples, any tuple) -/
structure Fin (G : Cr) (H : Hp) (ρ B : List Addr) (S : Sto) (d : D) (Q : VK) : Prop where
  new : ∀ p o, H p = none → FO G H ρ B d o → Q (.ref p) (upd H p o)
  tup : ∀ v H', Ext H ρ H' ρ → SR G H' ρ B S → VR G H' ρ B d v → isT d = true → Q v H'
variable (G : Cr) (C : Orc)
def tE (ex : E) : TE := fun σ H Q => ∃ env S ρ B B0 d S', SR G H ρ B S ∧ ER G H ρ B B0 σ env ∧ evE C ex env S = some (d, S') ∧ ∀ v H' ρ', Ext H ρ H' ρ' → SR G H' ρ' B S' → VR G H' ρ' B d v → Q v H'
def tF (ex : E) : TE := fun σ H Q => ∃ env S ρ B B0 d S', SR G H ρ B S ∧ ER G H ρ B B0 σ env ∧ evE C ex env S = some (d, S') ∧ ∀ H' ρ', Ext H ρ H' ρ' → SR G H' ρ' B S' → Fin G H' ρ' B S' d Q
def tP (p : P) : TE := fun σ H Q => ∃ env S ρ B B0 d S', SR G H ρ B S ∧ ER G H ρ B B0 σ env ∧ evP C p env S = some (d, S') ∧ ∀ v H' ρ', Ext H ρ H' ρ' → SR G H' ρ' B S' → PR G H' ρ' B d v → Q v H'
def tT (ex : E) : TT := fun σ H Q => ∃ env S ρ B B0 b S', SR G H ρ B S ∧ ER G H ρ B B0 σ env ∧ evE C ex env S = some (.bl b, S') ∧ ∀ H' ρ', Ext H ρ H' ρ' → SR G H' ρ' B S' → Q b H'
def tEs (es : Es) : TA := fun σ H Q => ∃ env S ρ B B0 ds S', SR G H ρ B S ∧ ER G H ρ B B0 σ env ∧ evEs C es env S = some (ds, S') ∧ ∀ vs H' ρ', Ext H ρ H' ρ' → SR G H' ρ' B S' → VRs G H' ρ' B ds vs → Q vs H'
def tQs (es : Qs) : TA := fun σ H Q => ∃ env S ρ B B0 ds S', SR G H ρ B S ∧ ER G H ρ B B0 σ env ∧ evQs C es env S = some (ds, S') ∧ ∀ vs H' ρ', Ext H ρ H' ρ' → SR G H' ρ' B S' → PRs G H' ρ' B ds vs → Q vs H'
variable {G C}

theorem impE {X : Cx} {e : Expr} {t u : TE} (h : PE X e t) (f : ∀ σ H Q, u σ H Q → t σ H Q) : PE X e u := ⟨fun pins s σ H Q I w => h.run pins s σ H Q I (f σ H Q w)⟩
theorem impT {X : Cx} {e : Expr} {t u : TT} (h : PT X e t) (f : ∀ σ H Q, u σ H Q → t σ H Q) : PT X e u := ⟨fun pins s σ H Q I w => h.run pins s σ H Q I (f σ H Q w)⟩
theorem impA {X : Cx} {e : List Expr} {t u : TA} (h : PA X e t) (f : ∀ σ H Q, u σ H Q → t σ H Q) : PA X e u := ⟨fun pos pins s σ H Q I w => h.run pos pins s σ H Q I (f σ H Q w)⟩

theorem Fin.of {H : Hp} {ρ B : List Addr} {S : Sto} {d : D} {Q : VK} (s : SR G H ρ B S) (q : ∀ v H', Ext H ρ H' ρ → SR G H' ρ B S → VR G H' ρ B d v → Q v H') : Fin G H ρ B S d Q := by
  refine ⟨fun p o hp f => ?_, fun v H' e s' r _ => q v H' e s' r⟩
  cases f with
  | lst r => exact new_lst s r hp q
  | dct r => exact q _ _ (Ext.laid hp) (s.laid hp) (.dct ⟨upd_same, fun z => s.tracked z hp, fun z => (s.bt p z).1 hp⟩ (VRk.mono ((Ext.laid hp).keeps s) _ _ r))
section
variable {X : Cx} {e a b c : Expr} {ex ea eb ec : E} {pa pb : P} {pos : Pos}
theorem tE.f (h : PE X e (tF G C ex)) : PE X e (tE G C ex) := impE h fun σ H Q ⟨env, S, ρ, B, B0, d, S', s, er, ev, q⟩ =>
  ⟨env, S, ρ, B, B0, d, S', s, er, ev, fun H' ρ' x s' => Fin.of s' fun v H2 x2 s2 r => q v H2 ρ' (x.trans x2) s2 r⟩
theorem tP.of (h : PE X e (tE G C ex)) : PE X e (tP G C (.e ex)) := impE h fun σ H Q ⟨env, S, ρ, B, B0, d, S', s, er, ev, q⟩ =>
  ⟨env, S, ρ, B, B0, d, S', s, er, ev, fun v H' ρ' x s' r => q v H' ρ' x s' (.of r)⟩
/-- a value that is a bool, as a test -/
theorem tT.val (h : PE X e (tE G C ex)) (he : ∀ whole, isTrue e X.env whole = (do let v ← whole; standAt e.pos; holding [v] (truthy v))) : PT X e (tT G C ex) := impT (pt_val h he) fun σ H Q ⟨env, S, ρ, B, B0, b, S', s, er, ev, q⟩ =>
  ⟨env, S, ρ, B, B0, _, S', s, er, ev, fun v H' ρ' x s' r => by cases r; exact ⟨b, rfl, q H' ρ' x s'⟩⟩

/-- two operands, one behind the other -/
theorem two {σ : St} {H : Hp} {R : V → V → Hp → Prop} {env : Env} {S S1 S2 : Sto} {ρ B B0 : List Addr} {d1 d2 : D} (s : SR G H ρ B S) (er : ER G H ρ B B0 σ env) (e1 : evP C pa env S = some (d1, S1)) (e2 : evP C pb env S1 = some (d2, S2))
    (q : ∀ x y H2 ρ2, Ext H ρ H2 ρ2 → SR G H2 ρ2 B S2 → PR G H2 ρ2 B d1 x → PR G H2 ρ2 B d2 y → R x y H2) : tP G C pa σ H fun x H1 => tP G C pb σ H1 fun y H2 => R x y H2 :=
  ⟨env, S, ρ, B, B0, d1, S1, s, er, e1, fun x H1 ρ1 x1 s1 r1 => ⟨env, S1, ρ1, B, B0, d2, S2, s1, er.ext s x1, e2, fun y H2 ρ2 x2 s2 r2 => q x y H2 ρ2 (x1.trans x2) s2 (r1.ext s1 x2) r2⟩⟩

/-! ### expressions -/
theorem bind2 {α β γ : Type} {x : Option α} {f : α → Option β} {g : α → β → Option γ} {z : γ} (h : (x.bind fun p => (f p).bind fun q => g p q) = some z) : ∃ p q, x = some p ∧ f p = some q ∧ g p q = some z := by
  cases x with
  | none => cases h
  | some p =>
    cases e : f p with
    | none => rw [Option.bind_some, e] at h; cases h
    | some q => rw [Option.bind_some, e] at h; exact ⟨p, q, rfl, e, h⟩
theorem sim_k_int {i : Int} {j : Nat} : PE X (.Constant (.int i) j pos) (tE G C (.k (.int i))) := impE pe_int fun σ H Q ⟨env, S, ρ, B, B0, d, S', s, er, ev, q⟩ => by cases ev; exact q _ _ _ Ext.refl s (.int i)
theorem sim_k_bl {i : Bool} {j : Nat} : PE X (.Constant (.bool i) j pos) (tE G C (.k (.bl i))) := impE pe_bl fun σ H Q ⟨env, S, ρ, B, B0, d, S', s, er, ev, q⟩ => by cases ev; exact q _ _ _ Ext.refl s (.bl i)
theorem sim_k_str {i : Str} {j : Nat} : PE X (.Constant (.str i) j pos) (tE G C (.k (.str i))) := impE pe_str fun σ H Q ⟨env, S, ρ, B, B0, d, S', s, er, ev, q⟩ => by cases ev; exact q _ _ _ Ext.refl s (.str i)
theorem sim_k_non {j : Nat} : PE X (.Constant .none j pos) (tE G C (.k .non)) := impE pe_non fun σ H Q ⟨env, S, ρ, B, B0, d, S', s, er, ev, q⟩ => by cases ev; exact q _ _ _ Ext.refl s .non
theorem sim_v {i : Nat} {x : Str} (hN : X.N[i]? = some x) (hv : Vis X.env.scope x) (hd : (x == ("__debug__" : Str)) = false) (hcd : (x == ("__classdict__" : Str)) = false) : PE X (.Name x pos) (tE G C (.v i)) :=
  impE (pe_var hN hv hd hcd) fun σ H Q ⟨env, S, ρ, B, B0, d, S', s, er, ev, q⟩ => by
    rw [evE] at ev
    obtain ⟨d', e1, e2⟩ := Option.map_eq_some_iff.mp ev
    cases e2
    obtain ⟨v, e, r⟩ := er.get e1
    exact ⟨v, e, q _ _ _ Ext.refl s r⟩
theorem sim_pk {i : Nat} {x : Str} (hN : X.N[i]? = some x) (hv : Vis X.env.scope x) (hd : (x == ("__debug__" : Str)) = false) (hcd : (x == ("__classdict__" : Str)) = false) : PE X (.Name x pos) (tP G C (.pk i)) :=
  impE (pe_var hN hv hd hcd) fun σ H Q ⟨env, S, ρ, B, B0, d, S', s, er, ev, q⟩ => by
    rw [evP] at ev
    obtain ⟨d', e1, e2⟩ := Option.map_eq_some_iff.mp ev
    cases e2
    obtain ⟨v, e, r⟩ := er.peek e1
    exact ⟨v, e, q _ _ _ Ext.refl s r⟩
theorem sim_gl {i : Nat} {x : Str} {u : Value} {v : V} (hg : Gl X x) (hm : X.mg x = some u) (hr : RelV v u) (hv : ∀ d, C.gl[i]? = some d → ∀ H ρ B, VR G H ρ B d v) (hd : (x == ("__debug__" : Str)) = false) : PE X (.Name x pos) (tE G C (.gl i)) :=
  impE (pe_glob hg hm hr hd) fun σ H Q ⟨env, S, ρ, B, B0, d, S', s, er, ev, q⟩ => by
    rw [evE] at ev
    obtain ⟨d', e1, e2⟩ := Option.map_eq_some_iff.mp ev
    cases e2
    exact q _ _ _ Ext.refl s (hv _ e1 _ _ _)
theorem sim_bin (hK : X.K = G.K) {op : Operator} (ha : PE X a (tE G C ea)) (hb : PE X b (tE G C eb)) : PE X (.BinOp a op b pos) (tE G C (.bin op ea eb)) :=
  impE (pe_op (bin_ok hK op) (tP.of ha) (tP.of hb)) fun σ H Q ⟨env, S, ρ, B, B0, d, S', s, er, ev, q⟩ => by
    rw [evE] at ev
    obtain ⟨⟨d1, S1⟩, ⟨d2, S2⟩, e1, e2, e3⟩ := bind2 ev
    obtain ⟨z, e4, e5⟩ := Option.map_eq_some_iff.mp e3
    cases e5
    exact two s er (pa := .e ea) (pb := .e eb) e1 e2 fun x y H2 ρ2 x2 s2 r1 r2 => ⟨ρ2, B, S2, _, _, _, s2, r1.top s2, r2.top s2, e4, fun v H3 x3 s3 r3 => q v H3 ρ2 (x2.trans x3) s3 r3⟩
theorem cmp_reads {op : CmpOp} {σ : St} {H : Hp} {Q : VK} : tE G C (.cmp op pa pb) σ H Q → tOp (rSem2 G fun a b => (semCmp op a b).map D.bl) (tP G C pa) (tP G C pb) σ H Q := fun ⟨env, S, ρ, B, B0, d, S', s, er, ev, q⟩ => by
  rw [evE] at ev
  obtain ⟨⟨d1, S1⟩, ⟨d2, S2⟩, e1, e2, e3⟩ := bind2 ev
  obtain ⟨z, e4, e5⟩ := Option.map_eq_some_iff.mp e3
  cases e5
  exact two s er e1 e2 fun x y H2 ρ2 x2 s2 r1 r2 => ⟨ρ2, B, S2, _, _, _, s2, r1.top s2, r2.top s2, by show (semCmp op (top S2 d1) (top S2 d2)).map D.bl = _; rw [e4]; rfl, fun v H3 x3 s3 r3 => q v H3 ρ2 (x2.trans x3) s3 r3⟩
theorem sim_cmp (hK : X.K = G.K) (hu : X.A.units + 64 < cLine) {op : CmpOp} (ha : PE X a (tP G C pa)) (hb : PE X b (tP G C pb)) (hm : behindInMarks op b = false) : PE X (.Compare a [op] [b] pos) (tE G C (.cmp op pa pb)) :=
  impE (pe_cmpR (cmp_ok hK hu op) ha hb hm) fun _ _ _ h => cmp_reads h
/-- of a reading of a value to that of a test -/
theorem toE {σ : St} {H : Hp} {Q : Bool → Hp → Prop} (h : tT G C ex σ H Q) : tE G C ex σ H fun x H' => ∃ k, x = .bl k ∧ Q k H' :=
  let ⟨env, S, ρ, B, B0, b, S', s, er, ev, q⟩ := h
  ⟨env, S, ρ, B, B0, _, S', s, er, ev, fun v H' ρ' x s' r => by cases r; exact ⟨b, rfl, q H' ρ' x s'⟩⟩
theorem test_cmp (hK : X.K = G.K) (hu : X.A.units + 64 < cLine) {op : CmpOp} (ha : PE X a (tP G C pa)) (hb : PE X b (tP G C pb)) (hm : behindInMarks op b = false) : PT X (.Compare a [op] [b] pos) (tT G C (.cmp op pa pb)) :=
  impT (pt_cmpR (cmp_ok hK hu op) ha hb hm) fun _ _ _ h => cmp_reads (toE h)
theorem chn_reads {o1 o2 : CmpOp} {σ : St} {H : Hp} {Q : VK} : tE G C (.chn o1 o2 ea eb ec) σ H Q → tChain (rSem2 G fun a b => (semCmp o1 a b).map D.bl) (rSem2 G fun a b => (semCmp o2 a b).map D.bl) (tE G C ea) (tE G C eb) (tE G C ec) σ H Q := fun ⟨env, S, ρ, B, B0, d, S', s, er, ev, q⟩ => by
  rw [evE] at ev
  obtain ⟨⟨d1, S1⟩, ⟨d2, S2⟩, e1, e2, e3⟩ := bind2 ev
  refine ⟨env, S, ρ, B, B0, d1, S1, s, er, e1, fun x H1 ρ1 x1 s1 r1 => ⟨env, S1, ρ1, B, B0, d2, S2, s1, er.ext s x1, e2, fun y H2 ρ2 x2 s2 r2 => ?_⟩⟩
  cases k1 : semCmp o1 (top S2 d1) (top S2 d2) with
  | none => rw [show semCmp o1 (top (d2, S2).2 (d1, S1).1) (top (d2, S2).2 (d2, S2).1) = none from k1] at e3; cases e3
  | some k =>
    rw [show semCmp o1 (top (d2, S2).2 (d1, S1).1) (top (d2, S2).2 (d2, S2).1) = some k from k1] at e3
    refine ⟨ρ2, B, S2, _, _, _, s2, ((PR.of r1).ext s1 x2).top s2, (PR.of r2).top s2, by show (semCmp o1 (top S2 d1) (top S2 d2)).map D.bl = _; rw [k1]; rfl, fun v H3 x3 s3 r3 => ?_⟩
    cases r3
    refine ⟨k, rfl, ?_⟩
    cases k with
    | false =>
      rw [Option.bind_some] at e3
      cases e3
      exact iteF (q _ _ _ ((x1.trans x2).trans x3) s3 (.bl false))
    | true =>
      rw [Option.bind_some, if_pos rfl] at e3
      obtain ⟨⟨d3, S3⟩, e4, e5⟩ := Option.bind_eq_some_iff.mp e3
      obtain ⟨z, e6, e7⟩ := Option.map_eq_some_iff.mp e5
      cases e7
      refine iteT ⟨env, S2, ρ2, B, B0, d3, S3, s3, ((er.ext s x1).ext s1 x2).ext s2 x3, e4, fun w H4 ρ4 x4 s4 r4 => ?_⟩
      exact ⟨ρ4, B, S3, _, _, _, s4, ((((PR.of r2).ext s2 x3).ext s3 x4)).top s4, (PR.of r4).top s4, by show (semCmp o2 (top S3 d2) (top S3 d3)).map D.bl = _; rw [e6]; rfl, fun v H5 x5 s5 r5 => q _ _ _ ((((x1.trans x2).trans x3).trans x4).trans x5) s5 r5⟩
theorem sim_chn (hK : X.K = G.K) (hu : X.A.units + 64 < cLine) {o1 o2 : CmpOp} (ha : PE X a (tE G C ea)) (hb : PE X b (tE G C eb)) (hc : PE X c (tE G C ec)) (hm : lastMarks [o1, o2] [b, c] = false) : PE X (.Compare a [o1, o2] [b, c] pos) (tE G C (.chn o1 o2 ea eb ec)) :=
  impE (pe_chain (cmp_ok hK hu o1) (cmp_ok hK hu o2) ha hb hc hm) fun _ _ _ h => chn_reads h
theorem test_chn (hK : X.K = G.K) (hu : X.A.units + 64 < cLine) {o1 o2 : CmpOp} (ha : PE X a (tE G C ea)) (hb : PE X b (tE G C eb)) (hc : PE X c (tE G C ec)) (hm : lastMarks [o1, o2] [b, c] = false) : PT X (.Compare a [o1, o2] [b, c] pos) (tT G C (.chn o1 o2 ea eb ec)) :=
  impT (pt_chain (cmp_ok hK hu o1) (cmp_ok hK hu o2) ha hb hc hm) fun _ _ _ h => chn_reads (toE h)
end
end Wf
set_option Elab.async false
set_option linter.all false
namespace Wf
open PySem L2
variable {G : Cr} {C : Orc}
section
variable {X : Cx} {e a b c : Expr} {ex ea eb ec : E} {pa pb : P} {pos : Pos}
theorem sim_neg (ha : PE X a (tE G C ea)) : PE X (.UnaryOp .USub a pos) (tE G C (.neg ea)) :=
  impE (pe_un un_neg ha) fun σ H Q ⟨env, S, ρ, B, B0, d, S', s, er, ev, q⟩ => by
    rw [evE] at ev
    obtain ⟨⟨d1, S1⟩, e1, e2⟩ := Option.bind_eq_some_iff.mp ev
    obtain ⟨i, e3, e4⟩ := Option.map_eq_some_iff.mp e2
    cases e4
    refine ⟨env, S, ρ, B, B0, d1, _, s, er, e1, fun x H1 ρ1 x1 s1 r1 => ?_⟩
    cases r1 <;> simp only [int?] at e3 <;> first | (cases e3; done) | skip
    cases e3
    exact ⟨_, rfl, q _ _ _ x1 s1 (.int _)⟩
theorem bl_of {d : D} {k : Bool} (h : bl? d = some k) : d = .bl k := by
  cases d <;> simp only [bl?] at h <;> first | (cases h; done) | skip
  cases h; rfl
theorem int_of {d : D} {k : Int} (h : int? d = some k) : d = .int k := by
  cases d <;> simp only [int?] at h <;> first | (cases h; done) | skip
  cases h; rfl
theorem sim_nt (ha : PE X a (tE G C ea)) : PE X (.UnaryOp .Not a pos) (tE G C (.nt ea)) :=
  impE (pe_not ha) fun σ H Q ⟨env, S, ρ, B, B0, d, S', s, er, ev, q⟩ => by
    rw [evE] at ev
    obtain ⟨⟨d1, S1⟩, e1, e2⟩ := Option.bind_eq_some_iff.mp ev
    obtain ⟨i, e3, e4⟩ := Option.map_eq_some_iff.mp e2
    cases e4
    cases bl_of e3
    exact ⟨env, S, ρ, B, B0, _, _, s, er, e1, fun x H1 ρ1 x1 s1 r1 => by cases r1; exact ⟨_, rfl, q _ _ _ x1 s1 (.bl _)⟩⟩
theorem test_nt (ha : PT X a (tT G C ea)) : PT X (.UnaryOp .Not a pos) (tT G C (.nt ea)) :=
  impT (pt_not ha) fun σ H Q ⟨env, S, ρ, B, B0, k, S', s, er, ev, q⟩ => by
    rw [evE] at ev
    obtain ⟨⟨d1, S1⟩, e1, e2⟩ := Option.bind_eq_some_iff.mp ev
    obtain ⟨i, e3, e4⟩ := Option.map_eq_some_iff.mp e2
    cases e4
    cases bl_of e3
    exact ⟨env, S, ρ, B, B0, _, _, s, er, e1, fun H1 ρ1 x1 s1 => q _ _ x1 s1⟩
theorem sim_and {rest : List Expr} (ha : PE X a (tE G C ea)) (hb : PE X (.BoolOp .And (b :: rest) pos) (tE G C eb)) : PE X (.BoolOp .And (a :: b :: rest) pos) (tE G C (.and_ ea eb)) :=
  impE (pe_and ha hb) fun σ H Q ⟨env, S, ρ, B, B0, d, S', s, er, ev, q⟩ => by
    rw [evE] at ev
    obtain ⟨⟨d1, S1⟩, k, e1, e2, e3⟩ := bind2 ev
    cases bl_of e2
    refine ⟨env, S, ρ, B, B0, _, _, s, er, e1, fun x H1 ρ1 x1 s1 r1 => ?_⟩
    cases r1
    refine ⟨_, rfl, ?_⟩
    cases k with
    | true => exact iteT ⟨env, S1, ρ1, B, B0, _, _, s1, er.ext s x1, e3, fun v H2 ρ2 x2 s2 r2 => q _ _ _ (x1.trans x2) s2 r2⟩
    | false => cases e3; exact iteF (q _ _ _ x1 s1 (.bl _))
theorem sim_or {rest : List Expr} (ha : PE X a (tE G C ea)) (hb : PE X (.BoolOp .Or (b :: rest) pos) (tE G C eb)) : PE X (.BoolOp .Or (a :: b :: rest) pos) (tE G C (.or_ ea eb)) :=
  impE (pe_or ha hb) fun σ H Q ⟨env, S, ρ, B, B0, d, S', s, er, ev, q⟩ => by
    rw [evE] at ev
    obtain ⟨⟨d1, S1⟩, k, e1, e2, e3⟩ := bind2 ev
    cases bl_of e2
    refine ⟨env, S, ρ, B, B0, _, _, s, er, e1, fun x H1 ρ1 x1 s1 r1 => ?_⟩
    cases r1
    refine ⟨_, rfl, ?_⟩
    cases k with
    | false => exact iteF ⟨env, S1, ρ1, B, B0, _, _, s1, er.ext s x1, e3, fun v H2 ρ2 x2 s2 r2 => q _ _ _ (x1.trans x2) s2 r2⟩
    | true => cases e3; exact iteT (q _ _ _ x1 s1 (.bl _))
theorem impW {X : Cx} {e : Expr} {t u : TT} (h : PW X e t) (f : ∀ σ H Q, u σ H Q → t σ H Q) : PW X e u := ⟨fun wh pins s σ H Q I w => h.run wh pins s σ H Q I (f σ H Q w)⟩
theorem test_and {rest : List Expr} (ha : PT X a (tT G C ea)) (hb : PW X (.BoolOp .And (b :: rest) pos) (tT G C eb)) : PW X (.BoolOp .And (a :: b :: rest) pos) (tT G C (.and_ ea eb)) :=
  impW (pw_and ha hb) fun σ H Q ⟨env, S, ρ, B, B0, d, S', s, er, ev, q⟩ => by
    rw [evE] at ev
    obtain ⟨⟨d1, S1⟩, k, e1, e2, e3⟩ := bind2 ev
    cases bl_of e2
    refine ⟨env, S, ρ, B, B0, _, _, s, er, e1, fun H1 ρ1 x1 s1 => ?_⟩
    cases k with
    | true => exact iteT ⟨env, S1, ρ1, B, B0, _, _, s1, er.ext s x1, e3, fun H2 ρ2 x2 s2 => q _ _ (x1.trans x2) s2⟩
    | false => cases e3; exact iteF (q _ _ x1 s1)
theorem test_or {rest : List Expr} (ha : PT X a (tT G C ea)) (hb : PW X (.BoolOp .Or (b :: rest) pos) (tT G C eb)) : PW X (.BoolOp .Or (a :: b :: rest) pos) (tT G C (.or_ ea eb)) :=
  impW (pw_or ha hb) fun σ H Q ⟨env, S, ρ, B, B0, d, S', s, er, ev, q⟩ => by
    rw [evE] at ev
    obtain ⟨⟨d1, S1⟩, k, e1, e2, e3⟩ := bind2 ev
    cases bl_of e2
    refine ⟨env, S, ρ, B, B0, _, _, s, er, e1, fun H1 ρ1 x1 s1 => ?_⟩
    cases k with
    | false => exact iteF ⟨env, S1, ρ1, B, B0, _, _, s1, er.ext s x1, e3, fun H2 ρ2 x2 s2 => q _ _ (x1.trans x2) s2⟩
    | true => cases e3; exact iteT (q _ _ x1 s1)
theorem sim_ite (hc : PT X c (tT G C ec)) (ha : PE X a (tE G C ea)) (hb : PE X b (tE G C eb)) : PE X (.IfExp c a b pos) (tE G C (.ite ec ea eb)) :=
  impE (pe_ifExp hc ha hb) fun σ H Q ⟨env, S, ρ, B, B0, d, S', s, er, ev, q⟩ => by
    rw [evE] at ev
    obtain ⟨⟨d1, S1⟩, k, e1, e2, e3⟩ := bind2 ev
    cases bl_of e2
    refine ⟨env, S, ρ, B, B0, _, _, s, er, e1, fun H1 ρ1 x1 s1 => ?_⟩
    cases k with
    | true => exact iteT ⟨env, S1, ρ1, B, B0, _, _, s1, er.ext s x1, e3, fun v H2 ρ2 x2 s2 r2 => q _ _ _ (x1.trans x2) s2 r2⟩
    | false => exact iteF ⟨env, S1, ρ1, B, B0, _, _, s1, er.ext s x1, e3, fun v H2 ρ2 x2 s2 r2 => q _ _ _ (x1.trans x2) s2 r2⟩
theorem sim_sub (hK : X.K = G.K) (hw : X.w = G.w) (hu : X.A.units + 1 < cLine) (ha : PE X a (tP G C pa)) (hb : PE X b (tE G C eb)) (hs : PlainIx b) : PE X (.Subscript a b pos) (tE G C (.sub pa eb)) :=
  impE (pe_ix (ix_ok hK hw hu) ha (tP.of hb) hs) fun σ H Q ⟨env, S, ρ, B, B0, d, S', s, er, ev, q⟩ => by
    rw [evE] at ev
    obtain ⟨⟨d1, S1⟩, ⟨d2, S2⟩, e1, e2, e3⟩ := bind2 ev
    obtain ⟨z, e4, e5⟩ := Option.map_eq_some_iff.mp e3
    cases e5
    refine two s er (pa := pa) (pb := .e eb) e1 e2 fun x y H2 ρ2 x2 s2 r1 r2 => ⟨ρ2, B, S2, _, _, _, s2, r1.top s2, r2.tr, e4, fun v H3 x3 s3 r3 => q v H3 ρ2 (x2.trans x3) s3 r3⟩

/-! ### slices -/
def rCut (G : Cr) : V → Option Int → Option Int → Hp → VK → Prop := fun x lo hi H Q => ∃ ρ B S a d, SR G H ρ B S ∧ TR G H ρ B a x ∧ semCut a lo hi = some d ∧ Fin G H ρ B S d Q
theorem cut_ok (hK : X.K = G.K) : L2.SlR X (rCut G) := by
  intro pins s σ H x v vl vu lo hi sl Q I rx hs pl pu h
  obtain ⟨ρ, B, S, a, d, sr, t, e, q⟩ := h
  unfold semCut at e
  split at e
  · cases e
    obtain ⟨a1, vs, rfl, h1, r1⟩ := t.lstOf
    exact sl_list pins s σ H _ v vl vu _ _ sl Q I rx hs pl pu ⟨_, _, rfl, SqL.of h1, fun p hp => q.new p _ hp (.lst (r1.cut _ _))⟩
  · cases e
    cases t with
    | of r =>
      cases r with
      | scr k => exact sl_list pins s σ H _ v vl vu _ _ sl Q I rx hs pl pu ⟨_, _, rfl, by rw [hK]; exact k.sq, fun p hp => q.new p _ hp (.lst ((VRs.mapInt _).cut _ _))⟩
  · rename_i ds
    cases e
    obtain ⟨a1, vs, rfl, h1, r1⟩ := t.tupOf
    refine sl_tupA pins s σ H _ v vl vu _ _ sl Q I rx hs pl pu ⟨_, _, rfl, by rw [hK]; exact h1, fun hz => ?_, fun _ p hp => new_tup sr (r1.cut _ _) hp fun v H' x s' r => q.tup v H' x s' r rfl⟩
    refine q.tup _ _ Ext.refl sr ?_ rfl
    have e1 : cutD ds lo hi = ds := by
      unfold cutD
      rw [r1.length] at hz
      rw [hz.1, hz.2]
      simp
    rw [e1]
    exact .tup h1 r1
  · cases e
def tO (G : Cr) (C : Orc) (o : Oe) : TO := fun σ H Q => ∃ env S ρ B B0 d S', SR G H ρ B S ∧ ER G H ρ B B0 σ env ∧ evO C o env S = some (d, S') ∧ ∀ H' ρ', Ext H ρ H' ρ' → SR G H' ρ' B S' → Q d H'
theorem impO {X : Cx} {e : Option Expr} {t u : TO} (h : PO X e t) (f : ∀ σ H Q, u σ H Q → t σ H Q) : PO X e u := ⟨fun pins s σ H Q I w => h.run pins s σ H Q I (f σ H Q w)⟩
theorem sim_o_none : PO X none (tO G C .none) := impO po_none fun σ H Q ⟨env, S, ρ, B, B0, d, S', s, er, ev, q⟩ => by rw [evO] at ev; cases ev; exact q _ _ Ext.refl s
theorem sim_o_some (h : PE X e (tE G C ex)) : PO X (some e) (tO G C (.some ex)) := impO (po_some h) fun σ H Q ⟨env, S, ρ, B, B0, d, S', s, er, ev, q⟩ => by
  rw [evO] at ev
  obtain ⟨⟨d1, S1⟩, e1, e2⟩ := Option.bind_eq_some_iff.mp ev
  obtain ⟨i, e3, e4⟩ := Option.map_eq_some_iff.mp e2
  cases e4
  cases int_of e3
  exact ⟨env, S, ρ, B, B0, _, _, s, er, e1, fun v H1 ρ1 x1 s1 r1 => by cases r1; exact ⟨_, rfl, q _ _ x1 s1⟩⟩
theorem sim_cut (hK : X.K = G.K) {lo hi : Option Expr} {el eh : Oe} {p2 : Pos} (ha : PE X a (tP G C pa)) (hl : PO X lo (tO G C el)) (hh : PO X hi (tO G C eh)) : PE X (.Subscript a (.Slice lo hi none p2) pos) (tF G C (.cut pa el eh)) :=
  impE (pe_slice (cut_ok hK) ha hl hh) fun σ H Q ⟨env, S, ρ, B, B0, d, S', s, er, ev, q⟩ => by
    rw [evE] at ev
    obtain ⟨⟨d1, S1⟩, ⟨l, S2⟩, e1, e2, e3⟩ := bind2 ev
    obtain ⟨⟨h, S3⟩, e4, e5⟩ := Option.bind_eq_some_iff.mp e3
    obtain ⟨z, e6, e7⟩ := Option.map_eq_some_iff.mp e5
    cases e7
    refine ⟨env, S, ρ, B, B0, d1, S1, s, er, e1, fun x H1 ρ1 x1 s1 r1 => ⟨env, S1, ρ1, B, B0, l, S2, s1, er.ext s x1, e2, fun H2 ρ2 x2 s2 => ⟨env, S2, ρ2, B, B0, h, S3, s2, (er.ext s x1).ext s1 x2, e4, fun H3 ρ3 x3 s3 => ?_⟩⟩⟩
    exact ⟨ρ3, B, S3, _, _, s3, ((r1.ext s1 x2).ext s2 x3).top s3, e6, q _ _ ((x1.trans x2).trans x3) s3⟩
theorem sim_rev (hK : X.K = G.K) {k : Nat} {p1 p2 p3 : Pos} (ha : PE X a (tP G C pa)) : PE X (.Subscript a (.Slice none none (some (.UnaryOp .USub (.Constant (.int 1) k p1) p2)) p3) pos) (tF G C (.rev pa)) :=
  impE (pe_revL ha) fun σ H Q ⟨env, S, ρ, B, B0, d, S', s, er, ev, q⟩ => by
    rw [evE] at ev
    obtain ⟨⟨d1, S1⟩, e1, e2⟩ := Option.bind_eq_some_iff.mp ev
    refine ⟨env, S, ρ, B, B0, d1, S1, s, er, e1, fun x H1 ρ1 x1 s1 r1 => ?_⟩
    have t := r1.top s1
    split at e2
    · rename_i xs hx
      cases e2
      rw [show top S1 d1 = _ from hx] at t
      obtain ⟨a1, vs, rfl, h1, q1⟩ := t.lstOf
      exact ⟨_, _, rfl, SqL.of h1, fun p hp => (q _ _ x1 s1).new p _ hp (.lst q1.reverse)⟩
    · cases e2

/-! ### argument lists, displays -/
theorem sim_nil : PA X [] (tEs G C .nil) := impA pa_nil fun σ H Q ⟨env, S, ρ, B, B0, d, S', s, er, ev, q⟩ => by rw [evEs] at ev; cases ev; exact q _ _ _ Ext.refl s .nil
theorem sim_cons {es : List Expr} {exs : Es} (h : PE X e (tE G C ex)) (hr : PA X es (tEs G C exs)) (hs : starEach (e :: es) X.env = (false, eval e X.env) :: starEach es X.env) : PA X (e :: es) (tEs G C (.cons ex exs)) :=
  impA (pa_cons h hr hs) fun σ H Q ⟨env, S, ρ, B, B0, d, S', s, er, ev, q⟩ => by
    rw [evEs] at ev
    obtain ⟨⟨d1, S1⟩, e1, e2⟩ := Option.bind_eq_some_iff.mp ev
    obtain ⟨⟨ds, S2⟩, e3, e4⟩ := Option.map_eq_some_iff.mp e2
    cases e4
    exact ⟨env, S, ρ, B, B0, d1, S1, s, er, e1, fun x H1 ρ1 x1 s1 r1 => ⟨env, S1, ρ1, B, B0, ds, S2, s1, er.ext s x1, e3, fun vs H2 ρ2 x2 s2 r2 => q _ _ _ (x1.trans x2) s2 (.cons (r1.ext s1 x2) r2)⟩⟩
theorem simQ_nil : PA X [] (tQs G C .nil) := impA pa_nil fun σ H Q ⟨env, S, ρ, B, B0, d, S', s, er, ev, q⟩ => by rw [evQs] at ev; cases ev; exact q _ _ _ Ext.refl s .nil
theorem simQ_cons {es : List Expr} {exs : Qs} (h : PE X e (tP G C pa)) (hr : PA X es (tQs G C exs)) (hs : starEach (e :: es) X.env = (false, eval e X.env) :: starEach es X.env) : PA X (e :: es) (tQs G C (.cons pa exs)) :=
  impA (pa_cons h hr hs) fun σ H Q ⟨env, S, ρ, B, B0, d, S', s, er, ev, q⟩ => by
    rw [evQs] at ev
    obtain ⟨⟨d1, S1⟩, e1, e2⟩ := Option.bind_eq_some_iff.mp ev
    obtain ⟨⟨ds, S2⟩, e3, e4⟩ := Option.map_eq_some_iff.mp e2
    cases e4
    exact ⟨env, S, ρ, B, B0, d1, S1, s, er, e1, fun x H1 ρ1 x1 s1 r1 => ⟨env, S1, ρ1, B, B0, ds, S2, s1, er.ext s x1, e3, fun vs H2 ρ2 x2 s2 r2 => q _ _ _ (x1.trans x2) s2 (.cons (r1.ext s1 x2) r2)⟩⟩
theorem sim_tup {es : List Expr} {exs : Es} {k : Nat} (h : PA X es (tEs G C exs)) : PE X (.Tuple es k pos) (tE G C (.tup exs)) :=
  impE (pe_tup h) fun σ H Q ⟨env, S, ρ, B, B0, d, S', s, er, ev, q⟩ => by
    rw [evE] at ev
    obtain ⟨⟨ds, S1⟩, e1, e2⟩ := Option.bind_eq_some_iff.mp ev
    split at e2
    · rename_i hz
      cases e2
      exact ⟨env, S, ρ, B, B0, ds, S1, s, er, e1, fun vs H1 ρ1 x1 s1 r1 => ⟨by rw [r1.length]; exact hz, fun p hp => new_tup s1 r1 hp fun v H' x s' r => q _ _ _ (x1.trans x) s' r⟩⟩
    · cases e2
theorem sim_lst {es : List Expr} {exs : Es} (h : PA X es (tEs G C exs)) : PE X (.List es pos) (tF G C (.lst exs)) :=
  impE (pe_lst h) fun σ H Q ⟨env, S, ρ, B, B0, d, S', s, er, ev, q⟩ => by
    rw [evE] at ev
    obtain ⟨⟨ds, S1⟩, e1, e2⟩ := Option.bind_eq_some_iff.mp ev
    split at e2
    · rename_i hz
      cases e2
      exact ⟨env, S, ρ, B, B0, ds, S1, s, er, e1, fun vs H1 ρ1 x1 s1 r1 => ⟨by rw [r1.length]; exact hz, fun p hp => (q _ _ x1 s1).new p _ hp (.lst r1)⟩⟩
    · cases e2
end
end Wf
set_option Elab.async false
set_option linter.all false
namespace Wf
open PySem L2
variable {G : Cr} {C : Orc}
section
variable {X : Cx} {e a b c : Expr} {ex ea eb ec : E} {pa pb : P} {pos : Pos}

/-! ### built-ins by name -/
theorem cb_reads {f : Bi} {qs : Qs} {σ : St} {H : Hp} {Q : VK} : tE G C (.bi f qs) σ H Q → tCB (rBi G f) (tQs G C qs) σ H Q := fun ⟨env, S, ρ, B, B0, d, S', s, er, ev, q⟩ => by
  rw [evE] at ev
  obtain ⟨⟨ds, S1⟩, e1, e2⟩ := Option.bind_eq_some_iff.mp ev
  obtain ⟨z, e3, e4⟩ := Option.map_eq_some_iff.mp e2
  cases e4
  exact ⟨env, S, ρ, B, B0, ds, S1, s, er, e1, fun vs H1 ρ1 x1 s1 r1 => ⟨ρ1, B, S1, _, _, s1, r1.top s1, e3, fun v H2 x2 s2 r2 => q _ _ _ (x1.trans x2) s2 r2⟩⟩
def biFn : Bi → Bool
  | .int => false | .tuple => false | .list => false | _ => true
theorem bi_boot (f : Bi) : bootBuiltins (biName f) = some (biVal f) := by cases f <;> decide +kernel
theorem sim_bi (hK : X.K = G.K) (hc : X.calm = true) (hg : X.A.guards = some []) (hu : X.A.units + 66 < cLine) {f : Bi} {p : Pos} {es : List Expr} {qs : Qs} (gl : Gl X (biName f)) (hm : X.mg (biName f) = none) (ha : PA X (e :: es) (tQs G C qs))
    (he : starEach (e :: es) X.env = (false, eval e X.env) :: starEach es X.env) (hpl : (backTo pos (starEach es X.env)).any (·.1) = false) : PE X (.Call (.Name (biName f) p) (e :: es) [] pos) (tE G C (.bi f qs)) := by
  have B := bi_boot f
  have O : CallR X (biVal f) (rBi G f) := bi_ok hK hc hg hu f
  cases f with
  | int => exact impE (pe_callTy (T := "int") O gl hm B ha (by decide) (by decide) he hpl) fun _ _ _ h => cb_reads h
  | tuple => exact impE (pe_callTy (T := "tuple") O gl hm B ha (by decide) (by decide) he hpl) fun _ _ _ h => cb_reads h
  | list => exact impE (pe_callTy (T := "list") O gl hm B ha (by decide) (by decide) he hpl) fun _ _ _ h => cb_reads h
  | len => exact impE (pe_callB (id := "len") O gl hm B ha (by decide) (by decide) he hpl) fun _ _ _ h => cb_reads h
  | abs => exact impE (pe_callB (id := "abs") O gl hm B ha (by decide) (by decide) he hpl) fun _ _ _ h => cb_reads h
  | min => exact impE (pe_callB (id := "min") O gl hm B ha (by decide) (by decide) he hpl) fun _ _ _ h => cb_reads h
  | max => exact impE (pe_callB (id := "max") O gl hm B ha (by decide) (by decide) he hpl) fun _ _ _ h => cb_reads h
  | sum => exact impE (pe_callB (id := "sum") O gl hm B ha (by decide) (by decide) he hpl) fun _ _ _ h => cb_reads h
  | any => exact impE (pe_callB (id := "any") O gl hm B ha (by decide) (by decide) he hpl) fun _ _ _ h => cb_reads h
  | all => exact impE (pe_callB (id := "all") O gl hm B ha (by decide) (by decide) he hpl) fun _ _ _ h => cb_reads h
  | repr => exact impE (pe_callB (id := "repr") O gl hm B ha (by decide) (by decide) he hpl) fun _ _ _ h => cb_reads h

/-! ### the store -/
theorem sim_box (h : PE X e (tF G C ex)) : PE X e (tE G C (.box ex)) :=
  impE h fun σ H Q ⟨env, S, ρ, B, B0, d, S', s, er, ev, q⟩ => by
    rw [evE] at ev
    obtain ⟨⟨d1, S1⟩, e1, e2⟩ := Option.bind_eq_some_iff.mp ev
    refine ⟨env, S, ρ, B, B0, d1, S1, s, er, e1, fun H1 ρ1 x1 s1 => ⟨fun p o hp f => ?_, fun v H' x s' r ht => ?_⟩⟩
    · have np : p ∉ ρ1 := fun z => s1.tracked z hp
      have at_ : (ρ1 ++ [p])[S1.length]? = some p := by
        rw [List.getElem?_append_right (by rw [s1.len]; exact Nat.le_refl _), s1.len]
        simp
      cases f with
      | @lst ds vs r =>
        cases e2
        have ex : Ext H1 ρ1 (upd H1 p (.lst vs)) (ρ1 ++ [p]) := (⟨fun a o' e _ => by rw [upd_ne (ne_of_none e hp)]; exact e, fun a e => by
          by_cases z : a = p
          · rw [z, upd_same]; simp
          · rw [upd_ne z]; exact e, [p], rfl, fun q hq => by rw [List.mem_singleton.mp hq]; exact hp⟩)
        obtain ⟨s2, x2⟩ := s1.push (o := .lst vs) (ob := .lst ds) hp (.lst upd_same (r.ext s1 ex))
        exact q _ _ _ (x1.trans x2) s2 (.ref at_)
      | @dct ds vs r =>
        cases e2
        have ex : Ext H1 ρ1 (upd H1 p (.dK vs)) (ρ1 ++ [p]) := (⟨fun a o' e _ => by rw [upd_ne (ne_of_none e hp)]; exact e, fun a e => by
          by_cases z : a = p
          · rw [z, upd_same]; simp
          · rw [upd_ne z]; exact e, [p], rfl, fun q hq => by rw [List.mem_singleton.mp hq]; exact hp⟩)
        obtain ⟨s2, x2⟩ := s1.push (o := .dK vs) (ob := .dct ds) hp (.dct upd_same (VRk.mono (ex.keeps s1) _ _ r))
        exact q _ _ _ (x1.trans x2) s2 (.ref at_)
    · cases d1 <;> simp only [isT] at ht <;> first | (cases ht; done) | skip
      cases e2
/-- the receiver is no super() -/
def noSup : Expr → Bool
  | .Call (.Name _ _) [] [] _ => false
  | _ => true
theorem base_of {o : Expr} {m : Str} {env : PySem.Env} (h : noSup o = true) : attributeBase o m env (eval o env) = eval o env := by
  unfold attributeBase
  cases o <;> first | rfl | skip
  rename_i f as ks p
  cases f <;> first | rfl | skip
  cases as <;> first | rfl | skip
  cases ks <;> first | rfl | skip
  cases h
theorem sim_pop {apos : Pos} (h : PE X a (tE G C ea)) (hs : noSup a = true) (hl : (apos.endLine == pos.line) = true) : PE X (.Call (.Attribute a "pop" apos) [] [] pos) (tE G C (.pop ea)) :=
  impE (pe_bm0 PySem.F.plainAttrs_list PySem.F.slot_list_pop PySem.F.type_list_pop mt_pop h (base_of hs) hl) fun σ H Q ⟨env, S, ρ, B, B0, d, S', s, er, ev, q⟩ => by
    rw [evE] at ev
    obtain ⟨⟨d1, S1⟩, ⟨i, xs⟩, e1, e2, e3⟩ := bind2 ev
    obtain ⟨y, e4, e5⟩ := Option.map_eq_some_iff.mp e3
    obtain ⟨e6, ho⟩ := refL_of e2
    cases e5
    cases e6
    refine ⟨env, S, ρ, B, B0, _, S1, s, er, e1, fun x H1 ρ1 x1 s1 r1 => ?_⟩
    cases r1 with
    | ref hi =>
      cases s1.ob i _ _ ho hi with
      | @lst _ _ vs h1 r1 =>
        obtain ⟨yv, e5, ry⟩ := r1.get e4
        refine ⟨.inl ⟨rfl, _, SqL.of h1⟩, _, _, yv, rfl, rfl, h1, by rw [r1.length]; exact e5, ?_⟩
        obtain ⟨s2, x2⟩ := s1.write (o := .lst vs.dropLast) (ob := .lst xs.dropLast) hi ho trivial fun k => .lst upd_same (VRs.mono k _ _ r1.dropLast)
        exact q _ _ _ (x1.trans x2) s2 (ry.ext s1 x2)
theorem sim_app {apos : Pos} (h : PE X a (tE G C ea)) (hb : PE X b (tE G C eb)) (hs : noSup a = true) (hl : (apos.endLine == pos.line) = true) (hst : starEach [b] X.env = [(false, eval b X.env)]) : PE X (.Call (.Attribute a "append" apos) [b] [] pos) (tE G C (.app ea eb)) :=
  impE (pe_bm PySem.F.plainAttrs_list PySem.F.slot_list_append PySem.F.type_list_append mt_append h (sim_cons hb sim_nil hst) (base_of hs) (by rw [hst]; rfl) hl hst rfl) fun σ H Q ⟨env, S, ρ, B, B0, d, S', s, er, ev, q⟩ => by
    rw [evE] at ev
    obtain ⟨⟨d1, S1⟩, ⟨i0, xs0⟩, e1, e2, e3⟩ := bind2 ev
    obtain ⟨⟨d2, S2⟩, ⟨i, xs⟩, e4, e5, e6⟩ := bind2 e3
    obtain ⟨f1, ho0⟩ := refL_of e2
    obtain ⟨f2, ho⟩ := refL_of e5
    cases f1
    cases f2
    split at e6
    · rename_i hz
      cases e6
      refine ⟨env, S, ρ, B, B0, _, S1, s, er, e1, fun x H1 ρ1 x1 s1 r1 => ?_⟩
      cases r1 with
      | ref hi =>
        cases s1.ob _ _ _ ho0 hi with
        | @lst _ _ vs0 h0 r0 =>
          refine ⟨.inl ⟨rfl, _, SqL.of h0⟩, env, S1, ρ1, B, B0, [d2], S2, s1, er.ext s x1, by rw [evEs, e4]; rfl, fun vs H2 ρ2 x2 s2 r2 => ?_⟩
          cases r2 with
          | cons r3 r4 =>
            cases r4
            have hi2 := (x2.keeps s1).ref _ _ hi
            cases s2.ob _ _ _ ho hi2 with
            | @lst _ _ us h1 r1 =>
              refine ⟨_, _, _, rfl, rfl, h1, by rw [r1.length]; exact hz, ?_⟩
              obtain ⟨s3, x3⟩ := s2.write (o := .lst (us ++ [_])) (ob := .lst (xs ++ [d2])) hi2 ho trivial fun k => .lst upd_same (VRs.mono k _ _ (r1.append (.cons r3 .nil)))
              exact q _ _ _ ((x1.trans x2).trans x3) s3 .non
    · cases e6
end
end Wf
set_option Elab.async false
set_option linter.all false
namespace Wf
open PySem L2
variable {G : Cr} {C : Orc}

/-! ### a thing under construction: banned, then let go -/
def era (H : Hp) (p : Addr) : Hp := fun a => if a = p then none else H a
theorem era_same {H : Hp} {p : Addr} : era H p p = none := if_pos rfl
theorem era_ne {H : Hp} {p a : Addr} (h : a ≠ p) : era H p a = H a := if_neg h
theorem upd_era {H : Hp} {p : Addr} {o : HO} (h : H p = some o) : upd (era H p) p o = H := by
  funext a
  by_cases z : a = p
  · rw [z, upd_same, h]
  · rw [upd_ne z, era_ne z]
theorem upd_era' {H : Hp} {p : Addr} {o : HO} : upd (era H p) p o = upd H p o := by
  funext a
  by_cases z : a = p
  · rw [z, upd_same, upd_same]
  · rw [upd_ne z, upd_ne z, era_ne z]
section
variable {H H' : Hp} {ρ ρ' B : List Addr} {S : Sto} {p : Addr} {o : HO}
theorem keep_ban (s : SR G H ρ B S) (h : H p = none) : Keep G H ρ B (upd H p o) ρ (p :: B) := by
  have k := (Ext.laid (ρ := ρ) (o := o) h).keeps s
  have np : ∀ a vs, H a = some vs → a ≠ p := fun a vs e => ne_of_none e h
  exact ⟨k.tup, fun a vs q => ⟨(k.lst a vs q).1, q.2.1, by simp only [List.mem_cons, not_or]; exact ⟨np _ _ q.1, q.2.2⟩⟩, fun a vs q => ⟨(k.dct a vs q).1, q.2.1, by simp only [List.mem_cons, not_or]; exact ⟨np _ _ q.1, q.2.2⟩⟩, k.scr, k.ref⟩
theorem ObR.keep {ob : Ob} {a : Addr} {ρ2 B2 : List Addr} (k : Keep G H ρ B H' ρ2 B2) (e : H' a = H a) (r : ObR G H ρ B ob a) : ObR G H' ρ2 B2 ob a := by
  cases r with
  | lst h r => exact .lst (by rw [e]; exact h) (VRs.mono k _ _ r)
  | dct h r => exact .dct (by rw [e]; exact h) (VRk.mono k _ _ r)
  | ins h c r => exact .ins (by rw [e]; exact h) c (r.mono k)
theorem SR.ban (s : SR G H ρ B S) (h : H p = none) : SR G (upd H p o) ρ (p :: B) S := by
  have k := keep_ban (o := o) s h
  refine ⟨s.len, s.nd, fun i ob a e1 e2 => (s.ob i ob a e1 e2).keep k (upd_ne fun z => s.tracked (List.mem_of_getElem? e2) (by rw [z]; exact h)), fun a ha => ?_⟩
  rcases List.mem_cons.mp ha with z | z
  · rw [z]; exact ⟨by rw [upd_same]; simp, fun q => s.tracked q h⟩
  · exact ⟨(Ext.laid (ρ := ρ) (o := o) h).there a (s.bt a z).1, (s.bt a z).2⟩
theorem keep_unban (mo : Mut (H p)) : Keep G H ρ (p :: B) (era H p) ρ B := by
  have nt : ∀ a u, H a = some u → ¬ Mut (some u) → a ≠ p := fun a u e n z => by
    subst z; rw [e] at mo; exact n mo
  refine ⟨fun a vs q => ?_, fun a vs q => ?_, fun a vs q => ?_, fun a vs q => ?_, fun _ _ e => e⟩
  · rcases q with (q | ⟨ob, q⟩) | q
    · exact .inl (.inl (by rw [era_ne (nt a _ q fun z => z)]; exact q))
    · exact .inl (.inr ⟨ob, by rw [era_ne (nt a _ q fun z => z)]; exact q⟩)
    · exact .inr q
  · have q2 := q.2.2
    simp only [List.mem_cons, not_or] at q2
    exact ⟨by rw [era_ne q2.1]; exact q.1, q.2.1, q2.2⟩
  · have q2 := q.2.2
    simp only [List.mem_cons, not_or] at q2
    exact ⟨by rw [era_ne q2.1]; exact q.1, q.2.1, q2.2⟩
  · rcases q with ⟨ob, q⟩ | q
    · exact .inl ⟨ob, by rw [era_ne (nt a _ q fun z => z)]; exact q⟩
    · exact .inr q
theorem SR.unban (s : SR G H ρ (p :: B) S) (nb : p ∉ B) (mo : Mut (H p)) : SR G (era H p) ρ B S := by
  have k := keep_unban (G := G) (ρ := ρ) (B := B) mo
  have pr : p ∉ ρ := (s.bt p List.mem_cons_self).2
  refine ⟨s.len, s.nd, fun i ob a e1 e2 => (s.ob i ob a e1 e2).keep k (era_ne fun z => pr (z ▸ List.mem_of_getElem? e2)), fun a ha => ?_⟩
  have h := s.bt a (List.mem_cons_of_mem _ ha)
  have ne : a ≠ p := fun z => nb (z ▸ ha)
  exact ⟨by rw [era_ne ne]; exact h.1, h.2⟩
/-- from ahead of the making to behind it, without the thing -/
theorem Ext.unban (h : H p = none) (e : Ext (upd H p o) ρ H' ρ') : Ext H ρ (era H' p) ρ' := by
  refine ⟨fun a u q n => ?_, fun a q => ?_, ?_⟩
  · have ne := ne_of_none q h
    rw [era_ne ne]
    exact e.keep a u (by rw [upd_ne ne]; exact q) n
  · have ne : a ≠ p := fun z => q (by rw [z]; exact h)
    rw [era_ne ne]
    exact e.there a (by rw [upd_ne ne]; exact q)
  · obtain ⟨n, e1, e2⟩ := e.new
    refine ⟨n, e1, fun b hb => ?_⟩
    have q := e2 b hb
    by_cases z : b = p
    · rw [z]; exact h
    · rw [upd_ne z] at q; exact q
theorem ER.ban {σ : St} {env : Env} {B0 : List Addr} (s : SR G H ρ B S) (h : H p = none) (t : ER G H ρ B B0 σ env) : ER G (upd H p o) ρ (p :: B) B0 σ env := by
  have k := keep_ban (o := o) s h
  refine ⟨t.len, fun i x e => ?_, t.apart⟩
  cases t.sl i x e with
  | un => exact .un
  | fz e1 r => exact .fz e1 (VR.mono k _ _ r)
  | ol e1 hb hn hh r => exact .ol e1 (List.mem_cons_of_mem _ hb) hn (by rw [upd_ne (ne_of_none hh h)]; exact hh) (VRs.mono k _ _ r)
  | od e1 hb hn hh r => exact .od e1 (List.mem_cons_of_mem _ hb) hn (by rw [upd_ne (ne_of_none hh h)]; exact hh) (VRk.mono k _ _ r)
end

/-! ### dict displays -/
def psTrs (G : Cr) (C : Orc) : Ps → List (TE × TE)
  | .nil => []
  | .cons k v ps => (tE G C k, tE G C v) :: psTrs G C ps
theorem pairs_reads : ∀ (ps : Ps) {σ : St} {H : Hp} {env : Env} {S S' : Sto} {ρ B B0 : List Addr} {kds : List (Key × D)} {Q : List (V × V) → Hp → Prop}, SR G H ρ B S → ER G H ρ B B0 σ env → evPs C ps env S = some (kds, S') →
    (∀ kvs H' ρ', Ext H ρ H' ρ' → SR G H' ρ' B S' → VRk G H' ρ' B kds kvs → Q (kvs.map fun kv => (kV kv.1, kv.2)) H') → tPairs (psTrs G C ps) σ H Q
  | .nil, σ, H, env, S, S', ρ, B, B0, kds, Q, s, er, ev, q => by
    rw [evPs] at ev
    cases ev
    exact q [] H ρ Ext.refl s .nil
  | .cons k v ps, σ, H, env, S, S', ρ, B, B0, kds, Q, s, er, ev, q => by
    rw [evPs] at ev
    obtain ⟨⟨d1, S1⟩, kk, e1, e2, e3⟩ := bind2 ev
    obtain ⟨⟨d2, S2⟩, e4, e5⟩ := Option.bind_eq_some_iff.mp e3
    obtain ⟨⟨r, S3⟩, e6, e7⟩ := Option.map_eq_some_iff.mp e5
    cases e7
    refine ⟨env, S, ρ, B, B0, d1, S1, s, er, e1, fun x H1 ρ1 x1 s1 r1 => ⟨env, S1, ρ1, B, B0, d2, S2, s1, er.ext s x1, e4, fun y H2 ρ2 x2 s2 r2 => ?_⟩⟩
    have hx : x = kV kk := by
      cases d1 with
      | int i => cases e2; cases r1; rfl
      | str i => cases e2; cases r1; rfl
      | _ => cases e2
    subst hx
    exact pairs_reads ps s2 ((er.ext s x1).ext s1 x2) e6 fun kvs H3 ρ3 x3 s3 r3 => q ((kk, y) :: kvs) H3 ρ3 ((x1.trans x2).trans x3) s3 (.cons (r2.ext s2 x3) r3)
theorem VRk.merge {H : Hp} {ρ B : List Addr} : ∀ {more : List (Key × D)} {mv : List (Key × V)} {ds : List (Key × D)} {vs : List (Key × V)}, VRk G H ρ B more mv → VRk G H ρ B ds vs →
    VRk G H ρ B (more.foldl (fun acc kv => Wf.put acc kv.1 kv.2) ds) (mergeK vs mv)
  | [], _, _, _, .nil, q => q
  | (k, d) :: more, _, ds, _, .cons (v := v) (vs := mv) r t, q => by
    show VRk G H ρ B (more.foldl (fun acc kv => Wf.put acc kv.1 kv.2) (Wf.put ds k d)) (mergeK (putK _ k v) mv)
    exact VRk.merge t (VRk.put r q)
theorem sim_dsp {X : Cx} {pos : Pos} {keys : List (Option Expr)} {values : List Expr} {ps : Ps} (h : PPs X pos keys values (psTrs G C ps)) (hall : keys.all (·.isSome) = true) (hl : keys.length = values.length) (h0 : keys ≠ []) (h15 : keys.length ≤ 15) :
    PE X (.Dict keys values pos) (tF G C (.dsp ps)) :=
  impE (pe_disp h hall hl h0 h15) fun σ H Q ⟨env, S, ρ, B, B0, d, S', s, er, ev, q⟩ => by
    rw [evE] at ev
    obtain ⟨⟨kds, S1⟩, e1, e2⟩ := Option.bind_eq_some_iff.mp ev
    split at e2
    · rename_i hz
      cases e2
      intro p hp
      refine pairs_reads ps (s.ban (o := .dK []) hp) (er.ban s hp) e1 fun kvs H1 ρ1 x1 s1 r1 => ?_
      have hpB : p ∉ B := fun z => (s.bt p z).1 hp
      have hat : H1 p = some (.dK []) := x1.keep p _ upd_same fun z => s.tracked z hp
      refine ⟨hat, kvs, rfl, by rw [r1.length]; exact hz, ?_⟩
      have mo : Mut (H1 p) := by rw [hat]; trivial
      have f := q (era H1 p) ρ1 (x1.unban hp) (s1.unban hpB mo)
      rw [← upd_era' (H := H1)]
      exact f.new p _ era_same (.dct (VRk.merge (VRk.mono (keep_unban mo) _ _ r1) .nil))
    · cases e2

/-! ### what is walked -/
structure IterOk (G : Cr) (J : L2.It) (H : Hp) (ρ B : List Addr) (ds : List D) : Prop where
  go : ∀ H2 ρ2 B2, (∀ a o, H a = some o → a ∉ ρ → a ∉ B → H2 a = some o) → Keep G H ρ B H2 ρ2 B2 → ∀ i, i < ds.length → J.go i H2
  yld : ∀ H2 ρ2 B2 S2, (∀ a o, H a = some o → a ∉ ρ → a ∉ B → H2 a = some o) → Keep G H ρ B H2 ρ2 B2 → SR G H2 ρ2 B2 S2 → ∀ i d, ds[i]? = some d → ∀ x H3, J.yld i H2 x H3 → Ext H2 ρ2 H3 ρ2 ∧ SR G H3 ρ2 B2 S2 ∧ VR G H3 ρ2 B2 d x
  stop : ∀ H2 ρ2 B2, (∀ a o, H a = some o → a ∉ ρ → a ∉ B → H2 a = some o) → Keep G H ρ B H2 ρ2 B2 → J.stop ds.length H2
def tI (G : Cr) (C : Orc) (it : It) : TI := fun σ H R => ∃ env S ρ B B0 ds S', SR G H ρ B S ∧ ER G H ρ B B0 σ env ∧ evI C it env S = some (ds, S') ∧ ∀ J H' ρ', Ext H ρ H' ρ' → SR G H' ρ' B S' → IterOk G J H' ρ' B ds → R J H'
theorem impI {X : Cx} {tg e : Expr} {t u : TI} (h : PI X tg e t) (f : ∀ σ H R, u σ H R → t σ H R) : PI X tg e u := ⟨fun pins s σ H Q I w => h.run pins s σ H Q I (f σ H Q w)⟩
section
variable {X : Cx} {tg e a b : Expr} {ex ea eb : E} {p pos : Pos} {H : Hp} {ρ B : List Addr} {S : Sto}
theorem iter_lst {ad : Addr} {ds : List D} {vs : List V} {K : PySem.W.Frag} (h : FzL H ρ B ad vs) (r : VRs G H ρ B ds vs) : IterOk G (Itl K ad) H ρ B ds := by
  have st : ∀ H2 : Hp, (∀ a o, H a = some o → a ∉ ρ → a ∉ B → H2 a = some o) → SqL K H2 ad vs := fun H2 k => SqL.of (k ad _ h.1 h.2.1 h.2.2)
  refine ⟨fun H2 ρ2 B2 k kp i hi => ?_, fun H2 ρ2 B2 S2 k kp s2 i d e x H3 y => ?_, fun H2 ρ2 B2 k kp => ⟨vs, st H2 k, by rw [r.length]; exact Nat.le_refl _⟩⟩
  · obtain ⟨v, e, _⟩ := r.get (List.getElem?_eq_getElem hi)
    exact ⟨vs, v, st H2 k, e⟩
  · obtain ⟨e3, y⟩ := y
    subst e3
    obtain ⟨v, e1, r1⟩ := r.get e
    have e2 := y vs (st _ k)
    rw [e1] at e2
    cases e2
    exact ⟨Ext.refl, s2, VR.mono kp _ _ r1⟩
theorem iter_tup {ad : Addr} {ds : List D} {vs : List V} (h : SqT G.K H ad vs) (r : VRs G H ρ B ds vs) : IterOk G (Itt G.K ad) H ρ B ds := by
  refine ⟨fun H2 ρ2 B2 k kp i hi => ?_, fun H2 ρ2 B2 S2 k kp s2 i d e x H3 y => ?_, fun H2 ρ2 B2 k kp => ⟨vs, kp.tup _ _ h, by rw [r.length]; exact Nat.le_refl _⟩⟩
  · obtain ⟨v, e, _⟩ := r.get (List.getElem?_eq_getElem hi)
    exact ⟨vs, v, kp.tup _ _ h, e⟩
  · obtain ⟨e3, y⟩ := y
    subst e3
    obtain ⟨v, e1, r1⟩ := r.get e
    have e2 := y vs (kp.tup _ _ h)
    rw [e1] at e2
    cases e2
    exact ⟨Ext.refl, s2, VR.mono kp _ _ r1⟩
theorem rangeD_len (lo hi : Int) : (rangeD lo hi).length = (hi - lo).toNat := by unfold rangeD; simp
theorem iter_rng {lo hi : Int} : IterOk G (Itr lo (hi - lo).toNat) H ρ B (rangeD lo hi) := by
  refine ⟨fun H2 ρ2 B2 k kp i h => by rw [rangeD_len] at h; exact h, fun H2 ρ2 B2 S2 k kp s2 i d e x H3 y => ?_, fun H2 ρ2 B2 k kp => by rw [rangeD_len]; exact Nat.le_refl _⟩
  obtain ⟨e3, y⟩ := y
  subst e3
  subst y
  unfold rangeD at e
  rw [List.getElem?_map] at e
  obtain ⟨n, e1, e2⟩ := Option.map_eq_some_iff.mp e
  have hn : n = i := by
    obtain ⟨hi, e3⟩ := List.getElem?_eq_some_iff.mp e1
    simp at e3
    exact e3.symm
  subst hn
  subst e2
  exact ⟨Ext.refl, s2, .int _⟩
/-- a list or a tuple -/
theorem pi_seq (h : PE X e (tE G C ex)) (hK : X.K = G.K) : PI X tg e (tI G C (.seq ex)) := by
  refine ⟨fun pins s0 σ H R I w => ?_⟩
  obtain ⟨env, S, ρ, B, B0, ds, S', s, er, ev, q⟩ := w
  rw [evI] at ev
  obtain ⟨⟨d, S1⟩, e1, e2⟩ := Option.bind_eq_some_iff.mp ev
  cases d <;> first | (cases e2; done) | skip
  · cases e2
    exact (pi_tup h).run pins s0 σ H R I ⟨env, S, ρ, B, B0, _, _, s, er, e1, fun v H' ρ' x s' r => by
      cases r with
      | tup hq rr => exact ⟨_, rfl, ⟨_, by rw [hK]; exact hq⟩, by rw [hK]; exact q _ _ _ x s' (iter_tup hq rr)⟩⟩
  · cases e2
    exact (pi_list h).run pins s0 σ H R I ⟨env, S, ρ, B, B0, _, _, s, er, e1, fun v H' ρ' x s' r => by
      cases r with
      | lst hq rr => exact ⟨_, rfl, ⟨_, SqL.of hq.1⟩, q _ _ _ x s' (iter_lst hq rr)⟩⟩
theorem sm62 {i : Int} (h : small62 i = true) : -(2 ^ 62) ≤ i ∧ i < 2 ^ 62 := by
  unfold small62 at h
  rw [Bool.and_eq_true, decide_eq_true_eq, decide_eq_true_eq] at h
  exact h
theorem sim_rng1 (hg : Gl X "range") (hm : X.mg "range" = none) (h : PE X a (tE G C ea)) (hs : starEach [a] X.env = [(false, eval a X.env)]) : PI X tg (.Call (.Name "range" p) [a] [] pos) (tI G C (.rng1 ea)) :=
  impI (pi_range1 hg hm (sim_cons h sim_nil hs) hs) fun σ H R ⟨env, S, ρ, B, B0, ds, S', s, er, ev, q⟩ => by
    rw [evI] at ev
    obtain ⟨⟨d, S1⟩, i, e1, e2, e3⟩ := bind2 ev
    cases int_of e2
    split at e3
    · rename_i hz
      cases e3
      refine ⟨env, S, ρ, B, B0, [_], _, s, er, by rw [evEs, e1]; rfl, fun vs H' ρ' x s' r => ?_⟩
      cases r with
      | cons r1 r2 =>
        cases r2
        cases r1
        obtain ⟨h1, h2⟩ := sm62 hz
        refine ⟨i, rfl, h1, h2, q _ _ _ x s' ?_⟩
        have := iter_rng (G := G) (H := H') (ρ := ρ') (B := B) (lo := 0) (hi := i)
        rw [Int.sub_zero] at this
        exact this
    · cases e3
theorem sim_rng2 (hg : Gl X "range") (hm : X.mg "range" = none) (h : PE X a (tE G C ea)) (hb : PE X b (tE G C eb)) (hs : starEach [a, b] X.env = [(false, eval a X.env), (false, eval b X.env)]) (hs2 : starEach [b] X.env = [(false, eval b X.env)]) :
    PI X tg (.Call (.Name "range" p) [a, b] [] pos) (tI G C (.rng2 ea eb)) :=
  impI (pi_range2 hg hm (sim_cons h (sim_cons hb sim_nil hs2) (by rw [hs, hs2])) hs hs2) fun σ H R ⟨env, S, ρ, B, B0, ds, S', s, er, ev, q⟩ => by
    rw [evI] at ev
    obtain ⟨⟨d1, S1⟩, ⟨d2, S2⟩, e1, e2, e3⟩ := bind2 ev
    obtain ⟨i, j, e4, e5, e6⟩ := bind2 e3
    cases int_of e4
    cases int_of e5
    split at e6
    · rename_i hz
      cases e6
      rw [Bool.and_eq_true] at hz
      refine ⟨env, S, ρ, B, B0, [_, _], _, s, er, by rw [evEs, e1]; show Option.map _ (evEs C (.cons eb .nil) env S1) = _; rw [evEs, e2]; rfl, fun vs H' ρ' x s' r => ?_⟩
      cases r with
      | cons r1 r2 =>
        cases r2 with
        | cons r3 r4 =>
          cases r4
          cases r1
          cases r3
          obtain ⟨h1, h2⟩ := sm62 hz.1
          obtain ⟨h3, h4⟩ := sm62 hz.2
          exact ⟨i, j, rfl, ⟨h1, h2, h3, h4⟩, q _ _ _ x s' iter_rng⟩
    · cases e6
end
end Wf
set_option Elab.async false
set_option linter.all false
namespace Wf
open PySem L2
open PyProof.Rows hiding St
variable {G : Cr} {C : Orc}

/-! ### unpacking with a star, at the heap's level -/
section
variable {prog : Program} {w : World} {A : Around} {E : Value → Shared → Prop} {s : Shared} {l : Addr} {n i : Nat}
/-- the end, whatever was walked -/
theorem star_end {its : List Value} {Q : List Value → Shared → Prop} (hi : i < n) (hn : n ≤ its.length + 1) (hz : its.length ≤ sizeLine) {first rest : List Value} (e1 : first = its.take i) (e2 : rest = its.drop i)
    (h : Q (its.take i ++ [.ref s.heap.objs.size] ++ (its.drop i).drop (its.length + 1 - n)) { s with heap := s.heap.push { cls := .type "list", data := .seq ((its.drop i).take (its.length + 1 - n)).toArray } }) :
    wpAny (model prog w) A (do
      if rest.length < n - 1 - i then
        rule "unpack.star.too-few"
        raiseError "ValueError" s!"not enough values to unpack (expected at least {n - 1}, got {i + rest.length})"
      return first ++ [← newList (rest.take (rest.length - (n - 1 - i)))] ++ rest.drop (rest.length - (n - 1 - i))) Q E s := by
  subst e1
  subst e2
  have h1 : (its.drop i).length = its.length - i := List.length_drop
  have h2 : (its.drop i).length - (n - 1 - i) = its.length + 1 - n := by omega
  rw [if_neg (by omega), h2]
  exact wpAny_bind (wpAny_newList (wpAny_pure h) (by rw [List.length_take]; omega))
theorem star_tup {items : Array Value} {Q : List Value → Shared → Prop} (hl : IsTup s.heap l items) (hh : A.handled = none) (hi : i < n) (hn : n ≤ items.toList.length + 1) (hz : items.size ≤ sizeLine)
    (h : ∀ (h' : Heap) (tk : Nat), (∀ b o, s.heap.get? b = some o → h'.get? b = some o) →
      Q (items.toList.take i ++ [.ref h'.objs.size] ++ (items.toList.drop i).drop (items.toList.length + 1 - n)) { s with heap := h'.push { cls := .type "list", data := .seq ((items.toList.drop i).take (items.toList.length + 1 - n)).toArray }, toks := tk }) :
    wpAny (model prog w) A (unpackItems (.ref l) n (some i)) Q E s := by
  obtain ⟨o0, g0, _⟩ := id hl
  have lt0 := Heap.lt_size g0
  have ne0 : l ≠ s.heap.objs.size := Nat.ne_of_lt lt0
  have hlen : items.toList.length = items.size := Array.length_toList
  unfold unpackItems notIterableAtAll
  refine wpAny_bind (wpAny_bind (wpAny_specialOf hl.typeIs slot_tuple_iter.lookup (wpAny_pure ?_)))
  rw [if_neg (by decide)]
  refine wpAny_bind (wpAny_holding (iter_tuple hl (wpAny_bind (wpAny_holding ?_))))
  refine draw_tuple ne0 i 0 _ _ ⟨_, Heap.get?_push_size _ rfl, rfl, rfl⟩ (hl.push _) (by omega) fun h1 it1 sb1 => ?_
  have tp1 : IsTup h1 l items := (hl.push _).extBut sb1.extBut ne0
  rw [Nat.zero_add] at it1
  obtain ⟨oi, goi, _⟩ := id it1
  obtain ⟨ol, gol, _⟩ := id tp1
  rw [List.drop_zero, if_neg (by rw [List.length_take]; omega)]
  refine wpAny_bind (wpAny_holding (PySem.W.kun_collect (s := { s with heap := h1 }) (T := "tuple_iterator") (.inr (.inr (.inr rfl))) (Walks.tuple (A := A.in1) hh s.heap.objs.size l ne0 items)
    (fun _ _ st => st.1.typeIs) (k := i) (by omega) ⟨it1, tp1⟩ (Heap.lt_size goi) (Heap.lt_size gol) (fun h2 tk kp => ?_) hz))
  have kept : ∀ b o, s.heap.get? b = some o → h2.get? b = some o := fun b o e => by
    have nb := Nat.ne_of_lt (Heap.lt_size e)
    exact kp b o nb (sb1.extBut b o nb (Heap.get?_push_of_some _ e))
  exact star_end (s := { s with heap := h2, toks := tk }) (its := items.toList) hi hn (by omega) rfl rfl (h h2 tk kept)
theorem star_lst {items : Array Value} {Q : List Value → Shared → Prop} (hl : s.heap.IsList l items) (hh : A.handled = none) (hi : i < n) (hn : n ≤ items.toList.length + 1) (hz : items.size ≤ sizeLine)
    (h : ∀ (h' : Heap) (tk : Nat), (∀ b o, s.heap.get? b = some o → h'.get? b = some o) →
      Q (items.toList.take i ++ [.ref h'.objs.size] ++ (items.toList.drop i).drop (items.toList.length + 1 - n)) { s with heap := h'.push { cls := .type "list", data := .seq ((items.toList.drop i).take (items.toList.length + 1 - n)).toArray }, toks := tk }) :
    wpAny (model prog w) A (unpackItems (.ref l) n (some i)) Q E s := by
  obtain ⟨o0, g0, _⟩ := id hl
  have ne0 : l ≠ s.heap.objs.size := Nat.ne_of_lt (Heap.lt_size g0)
  have hlen : items.toList.length = items.size := Array.length_toList
  unfold unpackItems notIterableAtAll
  refine wpAny_bind (wpAny_bind (wpAny_specialOf hl.typeIs slot_list_iter.lookup (wpAny_pure ?_)))
  rw [if_neg (by decide)]
  refine wpAny_bind (wpAny_holding (wpAny_pyIter_list hl (wpAny_bind (wpAny_holding ?_))))
  refine PySem.W.kun_draw ne0 i 0 _ _ ⟨_, Heap.get?_push_size _ rfl, rfl, rfl⟩ (hl.push _) (by omega) fun h1 it1 sb1 => ?_
  have tp1 : h1.IsList l items := (hl.push _).extBut sb1.extBut ne0
  rw [Nat.zero_add] at it1
  obtain ⟨oi, goi, _⟩ := id it1
  obtain ⟨ol, gol, _⟩ := id tp1
  rw [List.drop_zero, if_neg (by rw [List.length_take]; omega)]
  refine wpAny_bind (wpAny_holding (PySem.W.kun_collect (s := { s with heap := h1 }) (T := "list_iterator") (.inr (.inr (.inl rfl))) (Walks.list (A := A.in1) hh s.heap.objs.size l ne0 items)
    (fun _ _ st => st.1.typeIs) (k := i) (by omega) ⟨it1, tp1⟩ (Heap.lt_size goi) (Heap.lt_size gol) (fun h2 tk kp => ?_) hz))
  have kept : ∀ b o, s.heap.get? b = some o → h2.get? b = some o := fun b o e => by
    have nb := Nat.ne_of_lt (Heap.lt_size e)
    exact kp b o nb (sb1.extBut b o nb (Heap.get?_push_of_some _ e))
  exact star_end (s := { s with heap := h2, toks := tk }) (its := items.toList) hi hn (by omega) rfl rfl (h h2 tk kept)
end

/-! ### slots stored -/
def Off (l : List Nat) (σ σ' : St) : Prop := σ'.length = σ.length ∧ ∀ i, i ∉ l → σ'[i]? = σ[i]?
theorem Off.refl {l : List Nat} {σ : St} : Off l σ σ := ⟨rfl, fun _ _ => rfl⟩
theorem Off.trans {l m : List Nat} {σ σ1 σ2 : St} (a : Off l σ σ1) (b : Off m σ1 σ2) : Off (l ++ m) σ σ2 :=
  ⟨b.1.trans a.1, fun i h => by
    rw [List.mem_append, not_or] at h
    rw [b.2 i h.2, a.2 i h.1]⟩
theorem ER.set {H : Hp} {ρ B B0 : List Addr} {σ : St} {env : Env} {i : Nat} {d : D} {v : V} (t : ER G H ρ B B0 σ env) (r : VR G H ρ B d v) : ER G H ρ B B0 (σ.set i (some v)) (setS env i d) := by
  have hl := t.len
  refine ⟨by unfold setS; rw [List.length_set, List.length_set]; exact hl, fun j x e => ?_, fun j k x y a e1 e2 o1 o2 s1 s2 => ?_⟩
  · unfold setS at e
    by_cases h : j = i
    · subst h
      have hj : j < env.length := by
        have := (List.getElem?_eq_some_iff.mp e).1
        rwa [List.length_set] at this
      rw [List.getElem?_set_self hj] at e
      cases e
      exact .fz (by rw [List.getElem?_set_self (by rw [hl]; exact hj)]) r
    · rw [List.getElem?_set_ne (Ne.symm h)] at e
      cases t.sl j x e with
      | un => exact .un
      | fz e1 q => exact .fz (by rw [List.getElem?_set_ne (Ne.symm h)]; exact e1) q
      | ol e1 hb hn hh q => exact .ol (by rw [List.getElem?_set_ne (Ne.symm h)]; exact e1) hb hn hh q
      | od e1 hb hn hh q => exact .od (by rw [List.getElem?_set_ne (Ne.symm h)]; exact e1) hb hn hh q
  · unfold setS at e1 e2
    have ni : ∀ {j : Nat} {x : Sl}, (env.set i (.fz d))[j]? = some x → isOwn x = true → j ≠ i := fun {j x} e o h => by
      subst h
      have hj : j < env.length := by
        have := (List.getElem?_eq_some_iff.mp e).1
        rwa [List.length_set] at this
      rw [List.getElem?_set_self hj] at e
      cases e
      cases o
    have nj := ni e1 o1
    have nk := ni e2 o2
    rw [List.getElem?_set_ne (Ne.symm nj)] at e1 s1
    rw [List.getElem?_set_ne (Ne.symm nk)] at e2 s2
    exact t.apart j k x y a e1 e2 o1 o2 s1 s2

/-! ### targets -/
def tG (G : Cr) (t : T) : TG := fun v σ H Q => ∃ env S ρ B B0 d env', SR G H ρ B S ∧ ER G H ρ B B0 σ env ∧ VR G H ρ B d v ∧ asgT t d env = some env' ∧ ∀ σ' H', Ext H ρ H' ρ → SR G H' ρ B S → ER G H' ρ B B0 σ' env' → Off t.sl σ σ' → Q σ' H'
def tGs (G : Cr) (ts : Ts) : TGs := fun vs σ H Q => ∃ env S ρ B B0 ds env', SR G H ρ B S ∧ ER G H ρ B B0 σ env ∧ VRs G H ρ B ds vs ∧ asgTs ts ds env = some env' ∧ ∀ σ' H', Ext H ρ H' ρ → SR G H' ρ B S → ER G H' ρ B B0 σ' env' → Off ts.sl σ σ' → Q σ' H'
section
variable {X : Cx} {e : Expr} {es : List Expr} {t : T} {ts : Ts} {pos : Pos}
theorem impG {X : Cx} {tg : Expr} {t u : TG} (h : PG X tg t) (f : ∀ v σ H Q, u v σ H Q → t v σ H Q) : PG X tg u := ⟨fun pins s σ H v w Q I r q => h.run pins s σ H v w Q I r (f v σ H Q q)⟩
theorem impGs {X : Cx} {tg : List Expr} {t u : TGs} (h : PGs X tg t) (f : ∀ v σ H Q, u v σ H Q → t v σ H Q) : PGs X tg u := ⟨fun pins s σ H v w Q I r q => h.run pins s σ H v w Q I r (f v σ H Q q)⟩
theorem off_set {σ : St} {i : Nat} {v : V} : Off [i] σ (σ.set i (some v)) := ⟨List.length_set, fun j h => by rw [List.getElem?_set_ne]; intro z; exact h (by rw [z]; exact List.mem_singleton.mpr rfl)⟩
theorem sim_nm {i : Nat} {x : Str} (hN : X.N.Nodup) (hi : X.N[i]? = some x) (hx : Loc X.env.scope x) (hf : X.fn x = true ∨ X.env.scope.names.lookup x = some .local) : PG X (.Name x pos) (tG G (.nm i)) :=
  impG (pg_name hN hi hx hf) fun v σ H Q ⟨env, S, ρ, B, B0, d, env', s, er, r, e, q⟩ => by
    rw [asgT] at e
    cases e
    exact q _ _ Ext.refl s (er.set r) off_set
theorem simG_nil : PGs X [] (tGs G .nil) := impGs pgs_nil fun vs σ H Q ⟨env, S, ρ, B, B0, ds, env', s, er, r, e, q⟩ => by
  cases r with
  | nil => rw [asgTs] at e; cases e; exact ⟨rfl, q _ _ Ext.refl s er Off.refl⟩
  | cons a b => rw [asgTs] at e <;> first | (cases e; done) | (intros; simp_all)
theorem simG_cons (h1 : PG X e (tG G t)) (h2 : PGs X es (tGs G ts)) (hs : (assignEach (e :: es) X.env).map (·.2) = assign e X.env :: (assignEach es X.env).map (·.2)) : PGs X (e :: es) (tGs G (.cons t ts)) :=
  impGs (pgs_cons h1 h2 hs) fun vs σ H Q ⟨env, S, ρ, B, B0, ds, env', s, er, r, e, q⟩ => by
    cases r with
    | nil => rw [asgTs] at e <;> first | (cases e; done) | (intros; simp_all)
    | cons ra rb =>
      rw [asgTs] at e
      obtain ⟨env1, e1, e2⟩ := Option.bind_eq_some_iff.mp e
      exact ⟨_, _, rfl, env, S, ρ, B, B0, _, env1, s, er, ra, e1, fun σ1 H1 x1 s1 er1 o1 => ⟨env1, S, ρ, B, B0, _, env', s1, er1, rb.ext s x1, e2, fun σ2 H2 x2 s2 er2 o2 => q _ _ (x1.trans x2) s2 er2 (o1.trans o2)⟩⟩
theorem asgTs_len : ∀ {ts : Ts} {ds : List D} {env env' : Env}, asgTs ts ds env = some env' → ds.length = ts.len
  | .nil, [], _, _, _ => rfl
  | .nil, _ :: _, _, _, e => by rw [asgTs] at e <;> first | (cases e; done) | (intros; simp_all)
  | .cons _ _, [], _, _, e => by rw [asgTs] at e <;> first | (cases e; done) | (intros; simp_all)
  | .cons t ts, d :: ds, env, env', e => by
    rw [asgTs] at e
    obtain ⟨env1, e1, e2⟩ := Option.bind_eq_some_iff.mp e
    exact congrArg Nat.succ (asgTs_len e2)
/-- the rest of an unpacking: what came is stored -/
theorem sim_tp {k : Nat} (hc : X.calm = true) (hK : X.K = G.K) (h : PGs X es (tGs G ts)) (hn : (assignEach es X.env).length = ts.len) (hst : (assignEach es X.env).findIdx? (·.1) = none) : PG X (.Tuple es k pos) (tG G (.tp ts)) := by
  refine ⟨fun pins s0 σ H v u Q I ru hw => ?_⟩
  obtain ⟨env, S, ρ, B, B0, d, env', s, er, r, e, q⟩ := hw
  rw [asgT] at e
  obtain ⟨xs, e1, e2⟩ := Option.bind_eq_some_iff.mp e
  have hl := asgTs_len e2
  cases d <;> first | (cases e1; done) | skip
  · cases e1
    cases r with
    | tup hq rr =>
      cases ru
      obtain ⟨its, rv, ht, hz⟩ := I.tuple (by rw [hK]; exact hq)
      refine assign_Tuple_tuple (I.ok.hd hc) ht (by rw [hn, ← hl, ← rr.length, rv.length]; simp) hst fun h' hx => ?_
      have I1 : Inv X pins σ H { s0 with heap := h' } := I.kept (t' := s0.toks) fun b o e => hx b o (Nat.ne_of_lt (Heap.lt_size e)) e
      exact h.run pins _ σ H _ _ Q I1 (by simpa using rv) ⟨env, S, ρ, B, B0, _, env', s, er, rr, e2, q⟩
  · cases e1
    cases r with
    | lst hq rr =>
      cases ru
      obtain ⟨its, rv, ht, hz⟩ := I.list (SqL.of hq.1)
      rw [assign_Tuple]
      refine wpAny_bind (wpAny_standAt ?_)
      unfold unpack
      have hsz : its.toArray.size = ts.len := by rw [List.size_toArray, ← rv.length, rr.length, hl]
      rw [hn, hst, ← hsz]
      refine wpAny_bind (wpAny_holding (PySem.W.kun_itemsOf (I.ok.hd hc) ht.isList fun h' hx => ?_))
      have I1 : Inv X pins σ H { s0 with heap := h' } := I.kept (t' := s0.toks) fun b o e => hx b o (Nat.ne_of_lt (Heap.lt_size e)) e
      exact h.run pins _ σ H _ _ Q I1 (by simpa using rv) ⟨env, S, ρ, B, B0, _, env', s, er, rr, e2, q⟩
/-- the star's target without its star -/
def unstar : Expr → Expr
  | .Starred t _ => t
  | e => e
theorem unstar_each (env : PySem.Env) : ∀ es : List Expr, (es.map unstar).all (fun e => match e with | .Starred _ _ => false | _ => true) = true → (assignEach (es.map unstar) env).map (·.2) = (assignEach es env).map (·.2)
  | [], _ => rfl
  | e :: es, h => by
    rw [List.map_cons, List.all_cons, Bool.and_eq_true] at h
    have ih := unstar_each env es h.2
    cases e <;> first
      | exact congrArg (List.cons (assign _ env)) ih
      | (rename_i t p
         have h1 := h.1
         show (assignEach (t :: es.map unstar) env).map (·.2) = assign t env :: (assignEach es env).map (·.2)
         cases t <;> first
           | exact congrArg (List.cons (assign _ env)) ih
           | cases h1)
theorem VRs.star {H : Hp} {ρ B : List Addr} {ds : List D} {vs : List V} {n i : Nat} {p : Addr} {S : Sto} (s : SR G H ρ B S) (hp : H p = none) (r : VRs G H ρ B ds vs) :
    VRs G (upd H p (.lst ((vs.drop i).take (vs.length + 1 - n)))) ρ B (starD ds n i) (vs.take i ++ [.ref p] ++ (vs.drop i).drop (vs.length + 1 - n)) := by
  have x : Ext H ρ (upd H p (.lst ((vs.drop i).take (vs.length + 1 - n)))) ρ := Ext.laid hp
  have rr := r.ext s x
  unfold starD
  rw [← r.length]
  refine ((rr.take i).append (.cons (.lst ⟨upd_same, fun z => s.tracked z hp, fun z => (s.bt p z).1 hp⟩ ((rr.drop i).take _)) .nil)).append ((rr.drop i).drop _)
theorem sim_st {k i : Nat} (hc : X.calm = true) (hK : X.K = G.K) (h : PGs X (es.map unstar) (tGs G ts)) (hun : (es.map unstar).all (fun e => match e with | .Starred _ _ => false | _ => true) = true) (hn : (assignEach es X.env).length = ts.len) (hst : (assignEach es X.env).findIdx? (·.1) = some i) : PG X (.Tuple es k pos) (tG G (.st ts i)) := by
  refine ⟨fun pins s0 σ H v u Q I ru hw => ?_⟩
  obtain ⟨env, S, ρ, B, B0, d, env', s, er, r, e, q⟩ := hw
  rw [asgT] at e
  obtain ⟨xs, e1, e2⟩ := Option.bind_eq_some_iff.mp e
  split at e2
  · rename_i hcond
    have done : ∀ {its : List Value} {vs : List V} {h' : Heap} {tk : Nat}, Vals vs its → VRs G H ρ B xs vs → vs.length ≤ sizeLine → (∀ b o, s0.heap.get? b = some o → h'.get? b = some o) →
        wpAny (model X.prog X.w) X.A (assignInOrder ((assignEach es X.env).map (·.2)) (its.take i ++ [.ref h'.objs.size] ++ (its.drop i).drop (its.length + 1 - ts.len))) (fun _ s' => ∃ σ' H', Inv X pins σ' H' s' ∧ Q σ' H') X.xe
          { s0 with heap := h'.push { cls := .type "list", data := .seq ((its.drop i).take (its.length + 1 - ts.len)).toArray }, toks := tk } := by
      intro its vs h' tk rv rr hz kp
      have I1 : Inv X pins σ H { s0 with heap := h', toks := tk } := I.kept kp
      have hf : H h'.objs.size = none := I1.hok.fresh (Nat.le_refl _)
      have hlv : vs.length = its.length := rv.length
      have rmid : Vals ((vs.drop i).take (its.length + 1 - ts.len)) ((its.drop i).take (its.length + 1 - ts.len)) := (rv.drop i).take _
      have I2 : Inv X pins σ (upd H h'.objs.size (.lst ((vs.drop i).take (its.length + 1 - ts.len)))) { s0 with heap := h'.push { cls := .type "list", data := .seq ((its.drop i).take (its.length + 1 - ts.len)).toArray }, toks := tk } := by
        refine I1.laid (t' := tk) (fun b o e => Heap.get?_push_of_some _ e) (Nat.le_refl _) ⟨?_, _, 0, rmid, Heap.get?_push_size _ rfl⟩
        rw [List.length_take, List.length_drop]
        omega
      rw [← unstar_each X.env es hun]
      rw [← hlv] at I2 ⊢
      refine h.run pins _ σ _ (vs.take i ++ [.ref h'.objs.size] ++ (vs.drop i).drop (vs.length + 1 - ts.len)) _ Q I2 (((rv.take i).append (.cons (show RelV (.ref h'.objs.size) (.ref h'.objs.size) from rfl) .nil)).append ((rv.drop i).drop _)) ?_
      exact ⟨env, S, ρ, B, B0, _, env', s.laid hf, er.ext s (Ext.laid hf), VRs.star s hf rr, e2, fun σ' H' x s' er' o => q _ _ ((Ext.laid hf).trans x) s' er' o⟩
    cases d <;> first | (cases e1; done) | skip
    · cases e1
      cases r with
      | tup hq rr =>
        cases ru
        obtain ⟨its, rv, ht, hz⟩ := I.tuple (by rw [hK]; exact hq)
        rw [assign_Tuple]
        refine wpAny_bind (wpAny_standAt ?_)
        unfold unpack
        rw [hn, hst]
        have hl1 : its.length = xs.length := by rw [← rv.length, rr.length]
        exact wpAny_bind (wpAny_holding (star_tup ht (I.ok.hd hc) hcond.1 (by show ts.len ≤ its.length + 1; rw [hl1]; exact hcond.2) (by rw [List.size_toArray, ← rv.length]; exact hz) fun h' tk kp => done rv rr hz kp))
    · cases e1
      cases r with
      | lst hq rr =>
        cases ru
        obtain ⟨its, rv, ht, hz⟩ := I.list (SqL.of hq.1)
        rw [assign_Tuple]
        refine wpAny_bind (wpAny_standAt ?_)
        unfold unpack
        rw [hn, hst]
        have hl1 : its.length = xs.length := by rw [← rv.length, rr.length]
        exact wpAny_bind (wpAny_holding (star_lst ht.isList (I.ok.hd hc) hcond.1 (by show ts.len ≤ its.length + 1; rw [hl1]; exact hcond.2) (by rw [List.size_toArray, ← rv.length]; exact hz) fun h' tk kp => done rv rr hz kp))
  · cases e2
end
end Wf
set_option Elab.async false
set_option linter.all false
namespace Wf
open PySem L2
variable {G : Cr} {C : Orc}
section
variable {H H' : Hp} {ρ ρ' B B0 : List Addr} {S : Sto} {p : Addr} {o : HO} {σ : St} {env : Env}
theorem keep_reban (mo : Mut (H p)) : Keep G (era H p) ρ B H ρ (p :: B) := by
  have ne : ∀ a u, era H p a = some u → a ≠ p ∧ H a = some u := fun a u e => by
    by_cases z : a = p
    · rw [z, era_same] at e; cases e
    · rw [era_ne z] at e; exact ⟨z, e⟩
  refine ⟨fun a vs q => ?_, fun a vs q => ?_, fun a vs q => ?_, fun a vs q => ?_, fun _ _ e => e⟩
  · rcases q with (q | ⟨ob, q⟩) | q
    · exact .inl (.inl (ne _ _ q).2)
    · exact .inl (.inr ⟨ob, (ne _ _ q).2⟩)
    · exact .inr q
  · exact ⟨(ne _ _ q.1).2, q.2.1, by simp only [List.mem_cons, not_or]; exact ⟨(ne _ _ q.1).1, q.2.2⟩⟩
  · exact ⟨(ne _ _ q.1).2, q.2.1, by simp only [List.mem_cons, not_or]; exact ⟨(ne _ _ q.1).1, q.2.2⟩⟩
  · rcases q with ⟨ob, q⟩ | q
    · exact .inl ⟨ob, (ne _ _ q).2⟩
    · exact .inr q
theorem Keep.trans {H1 H2 : Hp} {ρ1 ρ2 B1 B2 : List Addr} (a : Keep G H ρ B H1 ρ1 B1) (b : Keep G H1 ρ1 B1 H2 ρ2 B2) : Keep G H ρ B H2 ρ2 B2 :=
  ⟨fun x vs q => b.tup x vs (a.tup x vs q), fun x vs q => b.lst x vs (a.lst x vs q), fun x vs q => b.dct x vs (a.dct x vs q), fun x vs q => b.scr x vs (a.scr x vs q), fun i x q => b.ref i x (a.ref i x q)⟩
theorem ER.keep {B' : List Addr} (t : ER G H ρ B B0 σ env) (k : Keep G H ρ B H' ρ' B') (ko : ∀ a u, a ∈ B → H a = some u → H' a = some u) (kb : ∀ a ∈ B, a ∈ B') : ER G H' ρ' B' B0 σ env := by
  refine ⟨t.len, fun i x e => ?_, t.apart⟩
  cases t.sl i x e with
  | un => exact .un
  | fz e1 r => exact .fz e1 (VR.mono k _ _ r)
  | ol e1 hb hn hh r => exact .ol e1 (kb _ hb) hn (ko _ _ hb hh) (VRs.mono k _ _ r)
  | od e1 hb hn hh r => exact .od e1 (kb _ hb) hn (ko _ _ hb hh) (VRk.mono k _ _ r)
theorem ER.wipe1 {i : Nat} (t : ER G H ρ B B0 σ env) : ER G H ρ B B0 (σ.set i none) (env.set i .un) := by
  have hl := t.len
  have ni : ∀ {j : Nat} {x : Sl}, (env.set i .un)[j]? = some x → isOwn x = true → j ≠ i := fun {j x} e o h => by
    subst h
    have hj : j < env.length := by
      have := (List.getElem?_eq_some_iff.mp e).1
      rwa [List.length_set] at this
    rw [List.getElem?_set_self hj] at e
    cases e
    cases o
  refine ⟨by rw [List.length_set, List.length_set]; exact hl, fun j x e => ?_, fun j k x y a e1 e2 o1 o2 s1 s2 => ?_⟩
  · by_cases h : j = i
    · subst h
      have hj : j < env.length := by
        have := (List.getElem?_eq_some_iff.mp e).1
        rwa [List.length_set] at this
      rw [List.getElem?_set_self hj] at e
      cases e
      exact .un
    · rw [List.getElem?_set_ne (Ne.symm h)] at e
      cases t.sl j x e with
      | un => exact .un
      | fz e1 q => exact .fz (by rw [List.getElem?_set_ne (Ne.symm h)]; exact e1) q
      | ol e1 hb hn hh q => exact .ol (by rw [List.getElem?_set_ne (Ne.symm h)]; exact e1) hb hn hh q
      | od e1 hb hn hh q => exact .od (by rw [List.getElem?_set_ne (Ne.symm h)]; exact e1) hb hn hh q
  · have nj := ni e1 o1
    have nk := ni e2 o2
    rw [List.getElem?_set_ne (Ne.symm nj)] at e1 s1
    rw [List.getElem?_set_ne (Ne.symm nk)] at e2 s2
    exact t.apart j k x y a e1 e2 o1 o2 s1 s2
theorem ER.wipe (t : ER G H ρ B B0 σ env) : ∀ own : List Nat, ER G H ρ B B0 (L2.wipe σ own) (wipeS env own)
  | [] => t
  | v :: vs => (ER.wipe t vs).wipe1
theorem wipe_get {σ : St} {i : Nat} : ∀ {vs : List Nat}, (L2.wipe σ vs)[i]? = if i ∈ vs then (if i < σ.length then some none else none) else σ[i]?
  | [] => by simp [L2.wipe]
  | v :: vs => by
    unfold L2.wipe
    by_cases h : v = i
    · subst h
      rw [if_pos List.mem_cons_self]
      by_cases hl : v < σ.length
      · rw [if_pos hl, List.getElem?_set_self (by rw [wipe_length]; exact hl)]
      · rw [if_neg hl, List.getElem?_eq_none (by rw [List.length_set, wipe_length]; omega)]
    · rw [List.getElem?_set_ne h, wipe_get (vs := vs)]
      by_cases h2 : i ∈ vs
      · rw [if_pos h2, if_pos (List.mem_cons_of_mem _ h2)]
      · rw [if_neg h2, if_neg (by simp only [List.mem_cons, not_or]; exact ⟨fun z => h z.symm, h2⟩)]
theorem wipe_off {σ σ2 : St} {l own : List Nat} (o : Off l (L2.wipe σ own) σ2) (h : ∀ i ∈ l, i ∈ own) : L2.wipe σ2 own = L2.wipe σ own := by
  apply List.ext_getElem?
  intro i
  have hl : σ2.length = σ.length := by rw [o.1, wipe_length]
  rw [wipe_get, wipe_get, hl]
  by_cases hi : i ∈ own
  · rw [if_pos hi, if_pos hi]
  · rw [if_neg hi, if_neg hi, o.2 i fun z => hi (h i z), wipe_get, if_neg hi]
theorem Ext.era (e : Ext H ρ H' ρ') (hp : H p ≠ none) (np : p ∉ ρ) : Ext (era H p) ρ (Wf.era H' p) ρ' := by
  have ne : ∀ a u, Wf.era H p a = some u → a ≠ p ∧ H a = some u := fun a u e => by
    by_cases z : a = p
    · rw [z, era_same] at e; cases e
    · rw [era_ne z] at e; exact ⟨z, e⟩
  refine ⟨fun a u h n => ?_, fun a h => ?_, ?_⟩
  · obtain ⟨h1, h2⟩ := ne a u h
    rw [era_ne h1]; exact e.keep a u h2 n
  · have h1 : a ≠ p := fun z => h (by rw [z]; exact era_same)
    rw [era_ne h1] at h ⊢
    exact e.there a h
  · obtain ⟨n, e1, e2⟩ := e.new
    refine ⟨n, e1, fun q hq => ?_⟩
    by_cases z : q = p
    · rw [z]; exact era_same
    · rw [era_ne z]; exact e2 q hq
theorem keep_own (hb : p ∈ B) (mo : Mut (H p)) : Keep G H ρ B (upd H p o) ρ B := by
  have nt : ∀ a u, H a = some u → ¬ Mut (some u) → a ≠ p := fun a u e n z => by
    subst z; rw [e] at mo; exact n mo
  refine ⟨fun a vs q => ?_, fun a vs q => ?_, fun a vs q => ?_, fun a vs q => ?_, fun _ _ e => e⟩
  · rcases q with (q | ⟨ob, q⟩) | q
    · exact .inl (.inl (by rw [upd_ne (nt a _ q fun z => z)]; exact q))
    · exact .inl (.inr ⟨ob, by rw [upd_ne (nt a _ q fun z => z)]; exact q⟩)
    · exact .inr q
  · exact ⟨by rw [upd_ne (show a ≠ p from fun z => q.2.2 (z ▸ hb))]; exact q.1, q.2⟩
  · exact ⟨by rw [upd_ne (show a ≠ p from fun z => q.2.2 (z ▸ hb))]; exact q.1, q.2⟩
  · rcases q with ⟨ob, q⟩ | q
    · exact .inl ⟨ob, by rw [upd_ne (nt a _ q fun z => z)]; exact q⟩
    · exact .inr q
theorem SR.own (s : SR G H ρ B S) (hb : p ∈ B) (mo : Mut (H p)) : SR G (upd H p o) ρ B S := by
  have np := (s.bt p hb).2
  refine s.same (keep_own hb mo) (fun a ha => upd_ne fun z => np (z ▸ ha)) fun a ha => ?_
  by_cases z : a = p
  · rw [z, upd_same]; simp
  · rw [upd_ne z]; exact (s.bt a ha).1
theorem era_upd : era (upd H p o) p = era H p := by
  funext a
  by_cases z : a = p
  · rw [z, era_same, era_same]
  · rw [era_ne z, era_ne z, upd_ne z]
end

/-! ### comprehensions -/
def tC (G : Cr) (C : Orc) (c : Oe) : TT := fun σ H Q => ∃ env S ρ B B0 b S', SR G H ρ B S ∧ ER G H ρ B B0 σ env ∧ evC C c env S = some (b, S') ∧ ∀ H' ρ', Ext H ρ H' ρ' → SR G H' ρ' B S' → Q b H'
theorem impTs {X : Cx} {e : List Expr} {t u : TT} (h : PTs X e t) (f : ∀ σ H Q, u σ H Q → t σ H Q) : PTs X e u := ⟨fun pins s σ H Q I w => h.run pins s σ H Q I (f σ H Q w)⟩
theorem simC_none {X : Cx} : PTs X [] (tC G C .none) := impTs pts_nil fun σ H Q ⟨env, S, ρ, B, B0, b, S', s, er, ev, q⟩ => by rw [evC] at ev; cases ev; exact q _ _ Ext.refl s
theorem simC_some {X : Cx} {c : Expr} {ec : E} (h : PT X c (tT G C ec)) : PTs X [c] (tC G C (.some ec)) := impTs (pts_one h) fun σ H Q ⟨env, S, ρ, B, B0, b, S', s, er, ev, q⟩ => by
  rw [evC] at ev
  obtain ⟨⟨d, S1⟩, e1, e2⟩ := Option.bind_eq_some_iff.mp ev
  obtain ⟨k, e3, e4⟩ := Option.map_eq_some_iff.mp e2
  cases e4
  cases bl_of e3
  exact ⟨env, S, ρ, B, B0, _, _, s, er, e1, q⟩
section
variable {X : Cx} {elt tg iter : Expr} {ifs : List Expr} {scope : Scope} {own : List (Str × Nat)} {pos : Pos} {t : T} {it : It} {c : Oe} {ex : E}
theorem lc_reads (hsl : ∀ i ∈ t.sl, i ∈ own.map (·.2)) {σ : St} {H : Hp} {Q : VK} (w : tF G C (.lc (own.map (·.2)) t it c ex) σ H Q) : tLc (tI G C it) (tG G t) (tC G C c) (tE G C ex) (own.map (·.2)) σ H Q := by
  obtain ⟨env, S, ρ, B, B0, d, S', s, er, ev, q⟩ := w
  rw [evE] at ev
  obtain ⟨⟨ds, S1⟩, e1, e2⟩ := Option.bind_eq_some_iff.mp ev
  obtain ⟨⟨out, S2⟩, e3, e4⟩ := Option.map_eq_some_iff.mp e2
  cases e4
  generalize hw : own.map (·.2) = ow at *
  generalize hf : (fun (d : D) (S : Sto) => (asgT t d (wipeS env ow)).bind fun env' => (evC C c env' S).bind fun q => if q.1 then (evE C ex env' q.2).map fun r => (some r.1, r.2) else some (none, q.2)) = f at e3
  refine ⟨env, S, ρ, B, B0, ds, S1, s, er, e1, fun J H1 ρ1 x1 s1 iok Dn hD => ?_⟩
  have nB : Dn ∉ B := fun z => (s1.bt Dn z).1 hD
  have er1 := er.ext s x1
  let Pv : Nat → Hp → Prop := fun i H => ∃ S ρ acc vs, Ext H1 ρ1 (era H Dn) ρ ∧ SR G H ρ (Dn :: B) S ∧ H Dn = some (.lst vs) ∧ VRs G H ρ (Dn :: B) acc vs ∧ lcGo f (ds.drop i) acc S = some (out, S2)
  refine ⟨fun i m H => m = ds.length - i ∧ i ≤ ds.length ∧ Pv i H, ⟨ds.length, rfl, Nat.zero_le _, S1, ρ1, [], [], ?_, s1.ban hD, upd_same, .nil, e3⟩, ?_⟩
  · rw [era_upd]
    have : era H1 Dn = H1 := by
      funext a
      by_cases z : a = Dn
      · rw [z, era_same, hD]
      · exact era_ne z
    rw [this]
    exact Ext.refl
  · rintro i m Hc ⟨rfl, hi, Sc, ρc, acc, vs, xc, sc, hat, racc, go⟩
    have mo : Mut (Hc Dn) := by rw [hat]; trivial
    have kc : Keep G H1 ρ1 B Hc ρc (Dn :: B) := (xc.keeps s1).trans (keep_reban mo)
    have kk0 : ∀ a o, H1 a = some o → a ∉ ρ1 → Hc a = some o := fun a o e n => by
      have z := xc.keep a o e n
      have ne : a ≠ Dn := ne_of_none e hD
      rwa [era_ne ne] at z
    have kk : ∀ a o, H1 a = some o → a ∉ ρ1 → a ∉ B → Hc a = some o := fun a o e n _ => kk0 a o e n
    by_cases hlt : i < ds.length
    · refine .inr ⟨iok.go Hc ρc _ kk kc i hlt, Pv (i + 1), fun H' pv => ⟨ds.length - (i + 1), by omega, rfl, hlt, pv⟩, fun x H3 y => ?_⟩
      obtain ⟨x3, s3, r3⟩ := iok.yld Hc ρc _ Sc kk kc sc i ds[i] (List.getElem?_eq_getElem hlt) x H3 y
      rw [List.drop_eq_getElem_cons hlt] at go
      rw [lcGo] at go
      cases hfd : f ds[i] Sc with
      | none => rw [hfd] at go; cases go
      | some fr =>
        rw [hfd] at go
        rw [← hf] at hfd
        obtain ⟨env', ⟨b, S4⟩, a1, a2, a3⟩ := bind2 hfd
        have erc : ER G Hc ρc (Dn :: B) B0 (wipe σ ow) (wipeS env ow) := (er1.keep kc (fun a u hb h => kk0 a u h (s1.bt a hb).2) fun a h => List.mem_cons_of_mem _ h).wipe ow
        refine ⟨wipeS env ow, Sc, ρc, Dn :: B, B0, ds[i], env', s3, erc.ext sc x3, r3, a1, fun σ5 H5 x5 s5 er5 o5 => ⟨wipe_off o5 hsl, env', Sc, ρc, Dn :: B, B0, b, S4, s5, er5, a2, fun H6 ρ6 x6 s6 => ?_⟩⟩
        have x36 := (x3.trans x5).trans x6
        cases b with
        | false =>
          refine iteF ?_
          cases a3
          have at6 : H6 Dn = some (.lst vs) := x36.keep _ _ hat (sc.bt Dn List.mem_cons_self).2
          exact ⟨S4, ρ6, acc, vs, xc.trans (x36.era (by rw [hat]; simp) (sc.bt Dn List.mem_cons_self).2), s6, at6, racc.ext sc x36, go⟩
        | true =>
          refine iteT ⟨env', S4, ρ6, Dn :: B, B0, ?_⟩
          obtain ⟨⟨dv, S7⟩, a4, a5⟩ := Option.map_eq_some_iff.mp (show (evE C ex env' S4).map _ = _ from a3)
          cases a5
          refine ⟨dv, S7, s6, er5.ext s5 x6, a4, fun yv H8 ρ8 x8 s8 r8 => ?_⟩
          have x38 := x36.trans x8
          have at8 : H8 Dn = some (.lst vs) := x38.keep _ _ hat (sc.bt Dn List.mem_cons_self).2
          have mo8 : Mut (H8 Dn) := by rw [at8]; trivial
          have go : (if acc.length < sizeLine then lcGo f (ds.drop (i + 1)) (acc ++ [dv]) S7 else none) = some (out, S2) := go
          split at go
          · rename_i hz
            refine ⟨vs, at8, by rw [racc.length]; exact hz, S7, ρ8, acc ++ [dv], vs ++ [yv], ?_, s8.own List.mem_cons_self mo8, upd_same, ?_, go⟩
            · rw [era_upd]
              exact xc.trans (x38.era (by rw [hat]; simp) (sc.bt Dn List.mem_cons_self).2)
            · exact VRs.mono (keep_own List.mem_cons_self mo8) _ _ ((racc.ext sc x38).append (.cons r8 .nil))
          · cases go
    · have e : i = ds.length := by omega
      subst e
      rw [List.drop_length] at go
      rw [lcGo] at go
      cases go
      refine .inl ⟨iok.stop Hc ρc _ kk kc, ?_⟩
      have f := q (era Hc Dn) ρc (x1.trans xc) (sc.unban nB mo)
      have fin := f.new Dn _ era_same (.lst (VRs.mono (keep_unban mo) _ _ racc))
      rw [upd_era hat] at fin
      exact fin
end
end Wf
set_option Elab.async false
set_option linter.all false
namespace Wf
open PySem L2
variable {G : Cr} {C : Orc}

/-! ### defs: as FnOk, and nothing is being shown by repr when they are called -/
structure FnG (P : Program) (w : World) (K : PySem.W.Frag) (mg : Str → Option Value) (base : Heap) (k : Nat) (f : Addr) (fd : FuncData) (ps : List Str) (sp : Sp) : Prop where
  len : ∀ vs H Q E, sp vs H Q E → vs.length = ps.length
  run : ∀ (A : Around) (outer : List PySem.Env) (s : Shared) (H : Hp) (args : Args) (us : List Value) (vs : List V) (Q : VK) (E : XK), Room k A → A.guards = some [] → Env0 P w K mg base A outer s H →
    BindsTo s fd args (ps.zip us) → Vals vs us → sp vs H Q E → codeAny (model P w) A (.call (.ref f) args) (CR CX0 outer P w H s Q E) s
/-- what a def does, by the evaluator -/
def spOf (G : Cr) (g : List D → Sto → Option (D × Sto)) : Sp := fun vs H Q _ => ∃ ρ B S ds d S', SR G H ρ B S ∧ VRs G H ρ B ds vs ∧ g ds S = some (d, S') ∧ ∀ v H' ρ', Ext H ρ H' ρ' → SR G H' ρ' B S' → VR G H' ρ' B d v → Q v H'
/-- how the values of a call come to the parameters -/
inductive PermR (G : Cr) (us : List Value) : List Ag → List Value → Prop
  | nil : PermR G us [] []
  | vi {k : Nat} {u : Value} {r : List Ag} {zs : List Value} : us[k]? = some u → PermR G us r zs → PermR G us (.vi k :: r) (u :: zs)
  | dv {d : D} {v : V} {u : Value} {r : List Ag} {zs : List Value} : RelV v u → (∀ H ρ B, VR G H ρ B d v) → PermR G us r zs → PermR G us (.dv d :: r) (u :: zs)
theorem PermR.vals {us : List Value} {vs : List V} {ds : List D} {H : Hp} {ρ B : List Addr} (rv : Vals vs us) (rd : VRs G H ρ B ds vs) : ∀ {perm : List Ag} {zs : List Value} {es : List D}, PermR G us perm zs → permA ds perm = some es → ∃ ws, Vals ws zs ∧ VRs G H ρ B es ws
  | _, _, _, .nil, e => by rw [permA] at e; cases e; exact ⟨[], .nil, .nil⟩
  | _, _, _, .vi hk r, e => by
    rw [permA] at e
    split at e
    · rename_i d ds' e1 e2
      cases e
      obtain ⟨v, h1, h2⟩ := rd.get e1
      obtain ⟨u, h3, h4⟩ := rv.get h1
      rw [hk] at h3
      cases h3
      obtain ⟨ws, a, b⟩ := PermR.vals rv rd r e2
      exact ⟨v :: ws, .cons h4 a, .cons h2 b⟩
    · cases e
  | _, _, _, .dv hr hv r, e => by
    rw [permA] at e
    obtain ⟨ds', e1, e2⟩ := Option.map_eq_some_iff.mp e
    cases e2
    obtain ⟨ws, a, b⟩ := PermR.vals rv rd r e1
    exact ⟨_ :: ws, .cons hr a, .cons (hv _ _ _) b⟩
def CB (G : Cr) (fd : FuncData) (ps : List Str) (np : Nat) (kn : List Str) (perm : List Ag) : Prop :=
  ∀ (s : Shared) (us ws : List Value), G.K.In s.heap → us.length = np → ws.length = kn.length → ∃ zs, BindsTo s fd ⟨us, kn.zip ws⟩ (ps.zip zs) ∧ PermR G (us ++ ws) perm zs ∧ zs.length = ps.length
section
variable {X : Cx} {pos p : Pos} {x : Str} {fa : Addr} {fd : FuncData} {ps : List Str} {n : Nat} {f : Nat} {args : List Expr} {kws : List Keyword} {es ks : Es} {perm : List Ag} {kn : List Str}
/-- the callee, with values at hand -/
theorem run_call (hK : X.K = G.K) (F : FnG X.prog X.w X.K X.mg X.base n fa fd ps (spOf G (C.call f))) (hr : Room n X.A) (hg : X.A.guards = some []) (hb : CB G fd ps args.length kn perm) {pins : List (Addr × Obj)} {s : Shared} {σ : St} {H : Hp} {ρ B : List Addr} {S S' : Sto} {us ws : List Value} {vs zs : List V}
    {d1 d2 ds : List D} {d : D} {Q : VK} (I : Inv X pins σ H s) (sr : SR G H ρ B S) (rv : Vals vs us) (rz : Vals zs ws) (r1 : VRs G H ρ B d1 vs) (r2 : VRs G H ρ B d2 zs) (l1 : us.length = args.length) (l2 : ws.length = kn.length) (e1 : permA (d1 ++ d2) perm = some ds) (e2 : C.call f ds S = some (d, S'))
    (q : ∀ v H' ρ', Ext H ρ H' ρ' → SR G H' ρ' B S' → VR G H' ρ' B d v → Q v H') : wpAny (model X.prog X.w) X.A (call (.ref fa) us (kn.zip ws)) (EP X pins σ Q) X.xe s := by
  obtain ⟨us', bt, pr, hl⟩ := hb s us ws (by rw [← hK]; exact I.kIn) l1 l2
  obtain ⟨vs', rv', rd'⟩ := PermR.vals (rv.append rz) (r1.append r2) pr e1
  refine wpAny_call (codeAny_mono (F.run X.A X.stack s H ⟨us, kn.zip ws⟩ us' vs' Q (fun _ _ _ => False) hr hg I.env0 bt rv' ⟨ρ, B, S, ds, d, S', sr, rd', e2, q⟩) fun r s' hq => ?_)
  cases r with
  | error e => exact False.elim hq
  | ok fl =>
    cases fl with
    | ret u => exact I.after hq
    | next => exact False.elim hq
    | brk => exact False.elim hq
    | cont => exact False.elim hq
def notStar : Expr → Bool
  | .Starred _ _ => false
  | _ => true
theorem star_cons {e : Expr} {es : List Expr} {env : PySem.Env} (h : notStar e = true) : starEach (e :: es) env = (false, eval e env) :: starEach es env := by
  cases e <;> first | rfl | cases h
theorem star_any {env : PySem.Env} : ∀ {es : List Expr}, es.all notStar = true → (backTo pos (starEach es env)).any (·.1) = false
  | [], _ => rfl
  | e :: es, h => by
    rw [List.all_cons, Bool.and_eq_true] at h
    rw [star_cons h.1]
    exact star_any (es := es) h.2
theorem kw_all {env : PySem.Env} : ∀ {kws : List Keyword} {kn : List Str}, kws.map Keyword.arg = kn.map some → (backToKw pos (keywordEach kws env)).all (·.1.isSome) = true ∧ (backToKw pos (keywordEach kws env)).filterMap (·.1) = kn ∧ (backToKw pos (keywordEach kws env)).any (·.1.isNone) = false
  | [], [], _ => ⟨rfl, rfl, rfl⟩
  | [], _ :: _, h => by cases h
  | _ :: _, [], h => by cases h
  | ⟨nm, v, kp⟩ :: kws, k :: kn, h => by
    rw [List.map_cons, List.map_cons, List.cons.injEq] at h
    obtain ⟨h1, h2⟩ := h
    have h1 : nm = some k := h1
    subst h1
    obtain ⟨a, b, c⟩ := kw_all (env := env) h2
    refine ⟨a, ?_, c⟩
    show k :: (backToKw pos (keywordEach kws env)).filterMap (·.1) = k :: kn
    rw [b]
theorem evEs_split {env : Env} {S S' : Sto} {ds : List D} (h : evE C (.call f es ks perm) env S = some (d, S')) : ∃ d1 S1 d2 S2 ds, evEs C es env S = some (d1, S1) ∧ evEs C ks env S1 = some (d2, S2) ∧ permA (d1 ++ d2) perm = some ds ∧ C.call f ds S2 = some (d, S') := by
  rw [evE] at h
  obtain ⟨⟨d1, S1⟩, ⟨d2, S2⟩, e1, e2, e3⟩ := bind2 h
  obtain ⟨ds, e4, e5⟩ := Option.bind_eq_some_iff.mp e3
  exact ⟨d1, S1, d2, S2, ds, e1, e2, e4, e5⟩
def Es.len : Es → Nat
  | .nil => 0
  | .cons _ es => es.len + 1
theorem evEs_len {env : Env} : ∀ {es : Es} {S S' : Sto} {ds : List D}, evEs C es env S = some (ds, S') → ds.length = es.len
  | .nil, _, _, _, h => by rw [evEs] at h; cases h; rfl
  | .cons e es, _, _, _, h => by
    rw [evEs] at h
    obtain ⟨⟨d, S1⟩, e1, e2⟩ := Option.bind_eq_some_iff.mp h
    obtain ⟨⟨r, S2⟩, e3, e4⟩ := Option.map_eq_some_iff.mp e2
    cases e4
    exact congrArg Nat.succ (evEs_len e3)
theorem sim_call (hK : X.K = G.K) (F : FnG X.prog X.w X.K X.mg X.base n fa fd ps (spOf G (C.call f))) (hr : Room n X.A) (hg : X.A.guards = some []) (hb : CB G fd ps args.length kn perm) (gl : Gl X x) (hm : X.mg x = some (.ref fa)) (hk : PySem.W.keepIn X.K (.ref fa) = true)
    (ha : PA X args (tEs G C es)) (hkw : PK X kws (tEs G C ks)) (hst : args.all notStar = true) (hkn : kws.map Keyword.arg = kn.map some) (hdb : (x == ("__debug__" : Str)) = false) (la : args.length = es.len) (lk : kn.length = ks.len) :
    PE X (.Call (.Name x p) args kws pos) (tE G C (.call f es ks perm)) := by
  refine ⟨fun pins s0 σ H Q I w => ?_⟩
  obtain ⟨env, S, ρ, B, B0, d, S', s, er, ev, q⟩ := w
  obtain ⟨d1, S1, d2, S2, ds, e1, e2, e3, e4⟩ := evEs_split (ds := []) ev
  obtain ⟨k1, k2, k3⟩ := kw_all (pos := pos) (env := X.env) hkn
  refine wpAny_Call_Name_kw (ld_glob I gl hm ?_ hdb)
  have kv : ∀ {s1 : Shared} {H1 : Hp} {ρ1 : List Addr} {us : List Value} {vs : List V}, Inv X pins σ H1 s1 → Ext H ρ H1 ρ1 → SR G H1 ρ1 B S1 → Vals vs us → VRs G H1 ρ1 B d1 vs → us.length = args.length →
      wpAny (model X.prog X.w) X.A (evalAll ((backToKw pos (keywordEach kws X.env)).map (·.2))) (fun ws s2 => X.K.In s2.heap ∧ wpAny (model X.prog X.w) X.A (call (.ref fa) us (kn.zip ws)) (EP X pins σ Q) X.xe s2) X.xe s1 := by
    intro s1 H1 ρ1 us vs I1 x1 sr1 rv1 r1 l1
    refine thn (hkw.run pos pins s1 σ H1 (fun zs H2 => ∃ ρ2, Ext H1 ρ1 H2 ρ2 ∧ SR G H2 ρ2 B S2 ∧ VRs G H2 ρ2 B d2 zs ∧ zs.length = kn.length) I1 ⟨env, S1, ρ1, B, B0, d2, S2, sr1, er.ext s x1, e2, fun zs H2 ρ2 x2 s2 r2 => ⟨ρ2, x2, s2, r2, ?_⟩⟩) fun ws s2 ⟨zs, H2, I2, rz, ρ2, x2, sr2, r2, l2⟩ => ⟨I2.kIn, ?_⟩
    · rw [r2.length, evEs_len e2, lk]
    · exact run_call hK F hr hg hb I2 sr2 rv1 rz (r1.ext sr1 x2) r2 l1 (rz.length.symm.trans l2) e3 e4 fun v H' ρ' x3 s3 r3 => q _ _ _ ((x1.trans x2).trans x3) s3 r3
  have av : wpAny (model X.prog X.w) X.A (spliced (backTo pos (starEach args X.env))) (fun us s1 => ∃ vs H1 ρ1, Inv X pins σ H1 s1 ∧ Ext H ρ H1 ρ1 ∧ SR G H1 ρ1 B S1 ∧ Vals vs us ∧ VRs G H1 ρ1 B d1 vs ∧ us.length = args.length) X.xe s0 := by
    refine thn (ha.run pos pins s0 σ H (fun vs H1 => ∃ ρ1, Ext H ρ H1 ρ1 ∧ SR G H1 ρ1 B S1 ∧ VRs G H1 ρ1 B d1 vs) I ⟨env, S, ρ, B, B0, d1, S1, s, er, e1, fun vs H1 ρ1 x1 s1 r1 => ⟨ρ1, x1, s1, r1⟩⟩) fun us s1 ⟨vs, H1, I1, rv, ρ1, x1, sr1, r1⟩ => ⟨vs, H1, ρ1, I1, x1, sr1, rv, r1, ?_⟩
    rw [← rv.length, r1.length, evEs_len e1, la]
  cases args with
  | nil =>
    have e1' : d1 = [] ∧ S1 = S := by
      cases es with
      | nil => rw [evEs] at e1; cases e1; exact ⟨rfl, rfl⟩
      | cons _ _ => cases la
    obtain ⟨h1, h2⟩ := e1'
    subst h1
    subst h2
    cases kws with
    | nil =>
      have hn : kn = [] := by cases kn with | nil => rfl | cons _ _ => cases hkn
      subst hn
      have e2' : d2 = [] ∧ S2 = S1 := by
        cases ks with
        | nil => rw [evEs] at e2; cases e2; exact ⟨rfl, rfl⟩
        | cons _ _ => cases lk
      obtain ⟨h1, h2⟩ := e2'
      subst h1
      subst h2
      exact PySem.W.callWith_K0 I.kIn hk (run_call hK F hr hg hb (us := []) (ws := []) (vs := []) (zs := []) I s .nil .nil .nil .nil rfl rfl e3 e4 q)
    | cons kw kws =>
      refine PySem.W.callWith_KW0 (h₀ := X.base) I.ok.mod.kin hk k1 ?_ (by rw [k3]; rfl)
      rw [k2]
      exact kv (us := []) (vs := []) I Ext.refl s .nil .nil rfl
  | cons e es' =>
    rw [List.all_cons, Bool.and_eq_true] at hst
    cases kws with
    | nil =>
      have hn : kn = [] := by cases kn with | nil => rfl | cons _ _ => cases hkn
      subst hn
      have e2' : d2 = [] ∧ S2 = S1 := by
        cases ks with
        | nil => rw [evEs] at e2; cases e2; exact ⟨rfl, rfl⟩
        | cons _ _ => cases lk
      obtain ⟨h1, h2⟩ := e2'
      subst h1
      subst h2
      refine PySem.W.callWith_K (h₀ := X.base) I.ok.mod.kin hk (thn av fun us s1 ⟨vs, H1, ρ1, I1, x1, sr1, rv, r1, l1⟩ => ⟨I1.kIn, ?_⟩) (star_cons hst.1) (star_any hst.2)
      exact run_call hK F hr hg hb (ws := []) (zs := []) I1 sr1 rv .nil r1 .nil l1 rfl e3 e4 fun v H' ρ' x3 s3 r3 => q _ _ _ (x1.trans x3) s3 r3
    | cons kw kws =>
      refine PySem.W.callWith_KW (h₀ := X.base) I.ok.mod.kin hk k1 (thn av fun us s1 ⟨vs, H1, ρ1, I1, x1, sr1, rv, r1, l1⟩ => ?_) (by rw [k3, star_cons hst.1]; show ((false || (backTo pos (starEach es' X.env)).any (·.1)) || false) = false; rw [star_any hst.2]; rfl) (star_cons hst.1)
      rw [k2]
      exact kv I1 x1 sr1 rv r1 l1

/-! ### keywords' values -/
theorem simK_nil : PK X [] (tEs G C .nil) := ⟨fun pos pins s σ H Q I ⟨env, S, ρ, B, B0, d, S', sr, er, ev, q⟩ => pk_nil.run pos pins s σ H Q I (by rw [evEs] at ev; cases ev; exact q _ _ _ Ext.refl sr .nil)⟩
theorem simK_cons {e : Expr} {ex : E} {exs : Es} {nm : Option Str} {kp : Pos} (h : PE X e (tE G C ex)) (hr : PK X kws (tEs G C exs)) : PK X (⟨nm, e, kp⟩ :: kws) (tEs G C (.cons ex exs)) :=
  ⟨fun pos pins s0 σ H Q I ⟨env, S, ρ, B, B0, d, S', s, er, ev, q⟩ => (pk_cons h hr).run pos pins s0 σ H Q I (by
    rw [evEs] at ev
    obtain ⟨⟨d1, S1⟩, e1, e2⟩ := Option.bind_eq_some_iff.mp ev
    obtain ⟨⟨ds, S2⟩, e3, e4⟩ := Option.map_eq_some_iff.mp e2
    cases e4
    exact ⟨env, S, ρ, B, B0, d1, S1, s, er, e1, fun x H1 ρ1 x1 s1 r1 => ⟨env, S1, ρ1, B, B0, ds, S2, s1, er.ext s x1, e3, fun vs H2 ρ2 x2 s2 r2 => q _ _ _ (x1.trans x2) s2 (.cons (r1.ext s1 x2) r2)⟩⟩)⟩
end
end Wf
set_option Elab.async false
set_option linter.all false
namespace Wf
open PySem L2
variable {G : Cr} {C : Orc}

/-- a place that was passed: what stood there apart from the store and the owned things stands -/
structure Mrk where
  H : Hp
  ρ : List Addr
  B : List Addr
structure MkOk (G : Cr) (m : Mrk) (H : Hp) (ρ B : List Addr) : Prop where
  kept : ∀ a o, m.H a = some o → a ∉ m.ρ → a ∉ m.B → H a = some o
  keep : Keep G m.H m.ρ m.B H ρ B
  th : ∀ a, m.H a ≠ none → H a ≠ none
  nr : ∀ a, m.H a ≠ none → a ∉ m.ρ → a ∉ ρ
  ow : ∀ a ∈ B, a ∈ m.B ∨ m.H a = none
theorem keep_weak {H : Hp} {ρ B B0 : List Addr} (h : ∀ a ∈ B0, a ∈ B) : Keep G H ρ B H ρ B0 :=
  ⟨fun _ _ q => q, fun a vs q => ⟨q.1, q.2.1, fun z => q.2.2 (h a z)⟩, fun a vs q => ⟨q.1, q.2.1, fun z => q.2.2 (h a z)⟩, fun _ _ q => q, fun _ _ q => q⟩
section
variable {m : Mrk} {H H' : Hp} {ρ ρ' B B' : List Addr} {S : Sto} {p : Addr} {o : HO}
theorem MkOk.start : MkOk G ⟨H, ρ, B⟩ H ρ B := ⟨fun _ _ e _ _ => e, keep_weak fun _ h => h, fun _ h => h, fun _ _ h => h, fun _ h => .inl h⟩
theorem MkOk.ext (k : MkOk G m H ρ B) (s : SR G H ρ B S) (x : Ext H ρ H' ρ') : MkOk G m H' ρ' B :=
  ⟨fun a o e n1 n2 => x.keep a o (k.kept a o e n1 n2) (k.nr a (by rw [e]; simp) n1), k.keep.trans (x.keeps s), fun a h => x.there a (k.th a h), fun a h n => x.old (k.th a h) (k.nr a h n), k.ow⟩
theorem MkOk.write (k : MkOk G m H ρ B) (hb : p ∈ B) (mo : Mut (H p)) : MkOk G m (upd H p o) ρ B := by
  refine ⟨fun a u e n1 n2 => ?_, k.keep.trans (keep_own hb mo), fun a h => ?_, k.nr, k.ow⟩
  · have ne : a ≠ p := fun z => by
      subst z
      rcases k.ow a hb with q | q
      · exact n2 q
      · rw [q] at e; cases e
    rw [upd_ne ne]
    exact k.kept a u e n1 n2
  · by_cases z : a = p
    · rw [z, upd_same]; simp
    · rw [upd_ne z]; exact k.th a h
theorem MkOk.ban (k : MkOk G m H ρ B) (s : SR G H ρ B S) (h : H p = none) : MkOk G m (upd H p o) ρ (p :: B) := by
  refine ⟨fun a u e n1 n2 => ?_, k.keep.trans (keep_ban s h), fun a q => (Ext.laid (ρ := ρ) (o := o) h).there a (k.th a q), k.nr, fun a ha => ?_⟩
  · have z := k.kept a u e n1 n2
    rw [upd_ne (ne_of_none z h)]
    exact z
  · rcases List.mem_cons.mp ha with z | z
    · exact .inr (Classical.byContradiction fun q => k.th a q (by rw [z]; exact h))
    · exact k.ow a z
theorem MkOk.weak (k : MkOk G m H ρ B) (h : ∀ a ∈ B', a ∈ B) : MkOk G m H ρ B' := ⟨k.kept, k.keep.trans (keep_weak h), k.th, k.nr, fun a ha => k.ow a (h a ha)⟩
end
/-- between two statements: H0, ρ0, B0 at the def's entry, ms the places passed -/
structure RS (G : Cr) (H0 : Hp) (ρ0 B0 : List Addr) (ms : List Mrk) (σ : St) (H : Hp) (env : Env) (S : Sto) (ρ B : List Addr) : Prop where
  sr : SR G H ρ B S
  er : ER G H ρ B B0 σ env
  sub : ∀ a ∈ B0, a ∈ B
  new : ∀ a ∈ B, a ∉ B0 → H0 a = none
  ext : Ext H0 ρ0 H ρ
  mks : ∀ m ∈ ms, MkOk G m H ρ B
section
variable {H0 H H' : Hp} {ρ0 ρ ρ' B0 B : List Addr} {ms : List Mrk} {σ σ' : St} {env env' : Env} {S S' : Sto} {d : D} {v : V}
theorem RS.step (r : RS G H0 ρ0 B0 ms σ H env S ρ B) (x : Ext H ρ H' ρ') (s : SR G H' ρ' B S') : RS G H0 ρ0 B0 ms σ H' env S' ρ' B := ⟨s, r.er.ext r.sr x, r.sub, r.new, r.ext.trans x, fun m h => (r.mks m h).ext r.sr x⟩
theorem SR.weak (s : SR G H ρ B S) (h : ∀ a ∈ B0, a ∈ B) : SR G H ρ B0 S := by
  exact ⟨s.len, s.nd, fun i o a e1 e2 => (s.ob i o a e1 e2).keep (keep_weak h) rfl, fun a ha => s.bt a (h a ha)⟩
theorem RS.ret (r : RS G H0 ρ0 B0 ms σ H env S ρ B) (x : Ext H ρ H' ρ') (s : SR G H' ρ' B S') (q : VR G H' ρ' B d v) : Ext H0 ρ0 H' ρ' ∧ SR G H' ρ' B0 S' ∧ VR G H' ρ' B0 d v :=
  ⟨r.ext.trans x, s.weak r.sub, VR.mono (keep_weak r.sub) _ _ q⟩
end
/-- what is wanted behind -/
def Wants (G : Cr) (H0 : Hp) (ρ0 B0 : List Addr) (ms : List Mrk) (D : Ends) : Fl → Prop
  | .nx env S => ∀ σ H ρ B, RS G H0 ρ0 B0 ms σ H env S ρ B → D.nx σ H
  | .rt d S => ∀ v H ρ, Ext H0 ρ0 H ρ → SR G H ρ B0 S → VR G H ρ B0 d v → D.rt v H
def tS (G : Cr) (C : Orc) (x : Sx) : TS := fun D σ H => ∃ H0 ρ0 B0 ms env S ρ B fl, RS G H0 ρ0 B0 ms σ H env S ρ B ∧ evS C x env S = some fl ∧ Wants G H0 ρ0 B0 ms D fl
def tSs (G : Cr) (C : Orc) (x : Ss) : TS := fun D σ H => ∃ H0 ρ0 B0 ms env S ρ B fl, RS G H0 ρ0 B0 ms σ H env S ρ B ∧ evSs C x env S = some fl ∧ Wants G H0 ρ0 B0 ms D fl
theorem impS {X : Cx} {e : Stmt} {t u : TS} (h : PS X e t) (f : ∀ D σ H, u D σ H → t D σ H) : PS X e u := ⟨fun pins s σ H D I w => h.run pins s σ H D I (f D σ H w)⟩
theorem impSs {X : Cx} {e : List Stmt} {t u : TS} (h : PSs X e t) (f : ∀ D σ H, u D σ H → t D σ H) : PSs X e u := ⟨fun pins s σ H D I w => h.run pins s σ H D I (f D σ H w)⟩
section
variable {X : Cx} {e tg : Expr} {ex ec : E} {t : T} {pos : Pos} {st : Stmt} {sts : List Stmt} {sx : Sx} {ss : Ss}
theorem simS_nil : PSs X [] (tSs G C .nil) := impSs pss_nil fun De σ H ⟨H0, ρ0, B0, ms, env, S, ρ, B, fl, r, ev, q⟩ => by
  rw [evSs] at ev
  cases ev
  exact q _ _ _ _ r
theorem simS_cons (h1 : PS X st (tS G C sx)) (h2 : PSs X sts (tSs G C ss)) : PSs X (st :: sts) (tSs G C (.cons sx ss)) := impSs (pss_cons h1 h2) fun De σ H ⟨H0, ρ0, B0, ms, env, S, ρ, B, fl, r, ev, q⟩ => by
  rw [evSs] at ev
  cases he : evS C sx env S with
  | none => rw [he] at ev; cases ev
  | some f1 =>
    rw [he] at ev
    refine ⟨H0, ρ0, B0, ms, env, S, ρ, B, f1, r, he, ?_⟩
    cases f1 with
    | nx env1 S1 => exact fun σ1 H1 ρ1 B1 r1 => ⟨H0, ρ0, B0, ms, env1, S1, ρ1, B1, fl, r1, ev, q⟩
    | rt d1 S1 => cases ev; exact q
/-- a list or dict that was owned is not changed any more -/
theorem er_frz {H : Hp} {ρ B B0 : List Addr} {σ : St} {env : Env} {i : Nat} {a : Addr} {x : Sl} {d : D} (er : ER G H ρ B B0 σ env) (hx : env[i]? = some x) (ho : isOwn x = true) (hs : σ[i]? = some (some (.ref a))) (hv : VR G H ρ (B.filter (· ≠ a)) d (.ref a)) :
    ER G H ρ (B.filter (· ≠ a)) B0 σ (env.set i (.fz d)) := by
  have kw : Keep G H ρ B H ρ (B.filter (· ≠ a)) := keep_weak fun b hb => (List.mem_filter.mp hb).1
  have hi : i < env.length := (List.getElem?_eq_some_iff.mp hx).1
  have kept : ∀ {j : Nat} {y : Sl} {b : Addr}, j ≠ i → env[j]? = some y → isOwn y = true → σ[j]? = some (some (.ref b)) → b ∈ B → b ∈ B.filter (· ≠ a) := fun {j y b} hj ej oj sj hb => by
    refine List.mem_filter.mpr ⟨hb, decide_eq_true fun z => ?_⟩
    subst z
    exact hj (er.apart j i y x b ej hx oj ho sj hs)
  refine ⟨by rw [List.length_set]; exact er.len, fun j y e => ?_, fun j k y z b e1 e2 o1 o2 s1 s2 => ?_⟩
  · by_cases h : j = i
    · subst h
      rw [List.getElem?_set_self hi] at e
      cases e
      exact .fz hs hv
    · rw [List.getElem?_set_ne (Ne.symm h)] at e
      cases er.sl j y e with
      | un => exact .un
      | fz e1 r => exact .fz e1 (VR.mono kw _ _ r)
      | ol e1 hb hn hh r => exact .ol e1 (kept h e rfl e1 hb) hn hh (VRs.mono kw _ _ r)
      | od e1 hb hn hh r => exact .od e1 (kept h e rfl e1 hb) hn hh (VRk.mono kw _ _ r)
  · have ni : ∀ {j : Nat} {x : Sl}, (env.set i (.fz d))[j]? = some x → isOwn x = true → j ≠ i := fun {j x} e o h => by
      subst h
      rw [List.getElem?_set_self hi] at e
      cases e
      cases o
    have nj := ni e1 o1
    have nk := ni e2 o2
    rw [List.getElem?_set_ne (Ne.symm nj)] at e1
    rw [List.getElem?_set_ne (Ne.symm nk)] at e2
    exact er.apart j k y z b e1 e2 o1 o2 s1 s2
theorem simS_frz {i : Nat} (h : PSs X sts (tSs G C ss)) : PSs X sts (tSs G C (.cons (.frz i) ss)) := impSs h fun De σ H ⟨H0, ρ0, B0, ms, env, S, ρ, B, fl, r, ev, q⟩ => by
  rw [evSs] at ev
  rw [evS] at ev
  have go : ∀ {a : Addr} {x : Sl} {d : D}, env[i]? = some x → isOwn x = true → σ[i]? = some (some (.ref a)) → a ∉ B0 → VR G H ρ (B.filter (· ≠ a)) d (.ref a) → RS G H0 ρ0 B0 ms σ H (env.set i (.fz d)) S ρ (B.filter (· ≠ a)) := fun {a x d} hx ho hs hn hv => by
    have sub : ∀ b ∈ B0, b ∈ B.filter (· ≠ a) := fun b hb => List.mem_filter.mpr ⟨r.sub b hb, decide_eq_true fun z => hn (z ▸ hb)⟩
    exact ⟨r.sr.weak fun b hb => (List.mem_filter.mp hb).1, er_frz r.er hx ho hs hv, sub, fun b hb n => r.new b (List.mem_filter.mp hb).1 n, r.ext, fun m hm => (r.mks m hm).weak fun b hb => (List.mem_filter.mp hb).1⟩
  split at ev
  · rename_i env1 S1 he
    split at he
    · rename_i xs hx
      cases he
      cases r.er.sl i _ hx with
      | @ol a _ vs e1 hb hn hh rr =>
        refine ⟨H0, ρ0, B0, ms, _, _, _, _, fl, go hx rfl e1 hn (.lst ⟨hh, (r.sr.bt a hb).2, fun z => ?_⟩ (VRs.mono (keep_weak fun b hb => (List.mem_filter.mp hb).1) _ _ rr)), ev, q⟩
        have := (List.mem_filter.mp z).2
        simp at this
    · rename_i xs hx
      cases he
      cases r.er.sl i _ hx with
      | @od a _ vs e1 hb hn hh rr =>
        refine ⟨H0, ρ0, B0, ms, _, _, _, _, fl, go hx rfl e1 hn (.dct ⟨hh, (r.sr.bt a hb).2, fun z => ?_⟩ (VRk.mono (keep_weak fun b hb => (List.mem_filter.mp hb).1) _ _ rr)), ev, q⟩
        have := (List.mem_filter.mp z).2
        simp at this
    · cases he
  · rename_i hne
    exfalso
    split at ev
    · rename_i hx
      exact hne _ _ (by rw [hx])
    · rename_i hx
      exact hne _ _ (by rw [hx])
    · cases ev
/-- target = value, plainly -/
theorem sim_asg (he : PE X e (tE G C ex)) (hg : PG X tg (tG G t)) (hs : swapsWithSole [tg] e pos.line X.env = pure false) (hw : swappedStores [tg] e X.env = pure none) (h1 : (assignEach [tg] X.env).map (·.2) = [assign tg X.env]) : PS X (.Assign [tg] e pos) (tS G C (.asg t ex)) :=
  impS (ps_asg he hg hs hw h1) fun De σ H ⟨H0, ρ0, B0, ms, env, S, ρ, B, fl, r, ev, q⟩ => by
    rw [evS] at ev
    obtain ⟨⟨d, S1⟩, e1, e2⟩ := Option.bind_eq_some_iff.mp ev
    obtain ⟨env1, e3, e4⟩ := Option.map_eq_some_iff.mp e2
    cases e4
    exact ⟨env, S, ρ, B, B0, d, S1, r.sr, r.er, e1, fun v H1 ρ1 x1 s1 r1 => ⟨env, S1, ρ1, B, B0, d, env1, s1, r.er.ext r.sr x1, r1, e3, fun σ2 H2 x2 s2 er2 _ => q _ _ _ _ ⟨s2, er2, r.sub, r.new, (r.ext.trans x1).trans x2, fun m h => ((r.mks m h).ext r.sr x1).ext s1 x2⟩⟩⟩
theorem sim_ret (he : PE X e (tE G C ex)) : PS X (.Return (some e) pos) (tS G C (.ret ex)) :=
  impS (ps_ret he) fun De σ H ⟨H0, ρ0, B0, ms, env, S, ρ, B, fl, r, ev, q⟩ => by
    rw [evS] at ev
    obtain ⟨⟨d, S1⟩, e1, e2⟩ := Option.map_eq_some_iff.mp ev
    cases e2
    exact ⟨env, S, ρ, B, B0, d, S1, r.sr, r.er, e1, fun v H1 ρ1 x1 s1 r1 => let ⟨a, b, c⟩ := r.ret x1 s1 r1; q _ _ _ a b c⟩
theorem sim_ex (he : PE X e (tE G C ex)) (hs : swapsWith e none pos.line X.env = pure false) : PS X (.Expr e pos) (tS G C (.ex ex)) :=
  impS (ps_expr he hs) fun De σ H ⟨H0, ρ0, B0, ms, env, S, ρ, B, fl, r, ev, q⟩ => by
    rw [evS] at ev
    obtain ⟨⟨d, S1⟩, e1, e2⟩ := Option.map_eq_some_iff.mp ev
    cases e2
    exact ⟨env, S, ρ, B, B0, d, S1, r.sr, r.er, e1, fun v H1 ρ1 x1 s1 r1 => q _ _ _ _ (r.step x1 s1)⟩
theorem sim_iff {c : Expr} {a b : List Stmt} {sa sb : Ss} (hc : PT X c (tT G C ec)) (ha : PSs X a (tSs G C sa)) (hb : PSs X b (tSs G C sb)) : PS X (.If c a b pos) (tS G C (.iff ec sa sb)) :=
  impS (ps_if hc ha hb) fun De σ H ⟨H0, ρ0, B0, ms, env, S, ρ, B, fl, r, ev, q⟩ => by
    rw [evS] at ev
    obtain ⟨⟨d, S1⟩, k, e1, e2, e3⟩ := bind2 ev
    cases bl_of e2
    refine ⟨env, S, ρ, B, B0, k, S1, r.sr, r.er, e1, fun H1 ρ1 x1 s1 => ?_⟩
    cases k with
    | true => exact iteT ⟨H0, ρ0, B0, ms, env, S1, ρ1, B, fl, r.step x1 s1, e3, q⟩
    | false => exact iteF ⟨H0, ρ0, B0, ms, env, S1, ρ1, B, fl, r.step x1 s1, e3, q⟩
theorem sim_fr {iter : Expr} {body : List Stmt} {it : It} {sb : Ss} (hc : X.calm = true) (hxe : PassesOwn (model X.prog X.w) X.A X.env X.xe) (hi : PI X tg iter (tI G C it)) (hg : PG X tg (tG G t)) (hb : PSs X body (tSs G C sb)) (hs : ∀ x, foldedSetIterable iter X.env x = pure x) :
    PS X (.For tg iter body [] pos) (tS G C (.fr t it sb)) :=
  impS (ps_for hxe hc hi hg hb hs) fun De σ H ⟨H0, ρ0, B0, ms, env, S, ρ, B, fl, r, ev, q⟩ => by
    rw [evS] at ev
    obtain ⟨⟨ds, S1⟩, e1, e2⟩ := Option.bind_eq_some_iff.mp ev
    refine ⟨env, S, ρ, B, B0, ds, S1, r.sr, r.er, e1, fun J H1 ρ1 x1 s1 iok => ?_⟩
    have r1 := r.step x1 s1
    have e2 : frGo (fun (d : Wf.D) (env : Env) (S : Sto) => (asgT t d env).bind fun env' => evSs C sb env' S) ds env S1 = some fl := e2
    generalize hf : (fun (d : Wf.D) (env : Env) (S : Sto) => (asgT t d env).bind fun env' => evSs C sb env' S) = f at e2
    let M : Mrk := ⟨H1, ρ1, B⟩
    let Pv : Nat → L2.St → Hp → Prop := fun i σ H => ∃ env S ρ' B', RS G H0 ρ0 B0 (M :: ms) σ H env S ρ' B' ∧ frGo f (ds.drop i) env S = some fl
    refine ⟨fun i m σ H => m = ds.length - i ∧ i ≤ ds.length ∧ Pv i σ H, ⟨ds.length, rfl, Nat.zero_le _, env, S1, ρ1, B, ⟨r1.sr, r1.er, r1.sub, r1.new, r1.ext, fun m h => ?_⟩, e2⟩, ?_⟩
    · rcases List.mem_cons.mp h with z | z
      · rw [z]; exact MkOk.start
      · exact r1.mks m z
    rintro i m σc Hc ⟨rfl, hi, envc, Sc, ρc, Bc, rc, go⟩
    have mk := rc.mks M List.mem_cons_self
    by_cases hlt : i < ds.length
    · refine .inr ⟨iok.go Hc ρc _ mk.kept mk.keep i hlt, Pv (i + 1), fun σ' H' pv => ⟨ds.length - (i + 1), by omega, rfl, hlt, pv⟩, fun x H3 y => ?_⟩
      obtain ⟨x3, s3, r3⟩ := iok.yld Hc ρc _ Sc mk.kept mk.keep rc.sr i ds[i] (List.getElem?_eq_getElem hlt) x H3 y
      rw [List.drop_eq_getElem_cons hlt] at go
      rw [frGo] at go
      cases hfd : f ds[i] envc Sc with
      | none => rw [hfd] at go; cases go
      | some f1 =>
        rw [hfd] at go
        rw [← hf] at hfd
        obtain ⟨env', a1, a2⟩ := Option.bind_eq_some_iff.mp hfd
        refine ⟨envc, Sc, ρc, Bc, B0, ds[i], env', s3, rc.er.ext rc.sr x3, r3, a1, fun σ5 H5 x5 s5 er5 _ => ?_⟩
        have r5 : RS G H0 ρ0 B0 (M :: ms) σ5 H5 env' Sc ρc Bc := ⟨s5, er5, rc.sub, rc.new, (rc.ext.trans x3).trans x5, fun m h => ((rc.mks m h).ext rc.sr x3).ext s3 x5⟩
        refine ⟨H0, ρ0, B0, M :: ms, env', Sc, ρc, Bc, f1, r5, a2, ?_⟩
        cases f1 with
        | nx env6 S6 => exact fun σ6 H6 ρ6 B6 r6 => ⟨env6, S6, ρ6, B6, r6, go⟩
        | rt d6 S6 => cases go; exact q
    · have e : i = ds.length := by omega
      subst e
      rw [List.drop_length] at go
      rw [frGo] at go
      cases go
      exact .inl ⟨iok.stop Hc ρc _ mk.kept mk.keep, q _ _ _ _ ⟨rc.sr, rc.er, rc.sub, rc.new, rc.ext, fun m h => rc.mks m (List.mem_cons_of_mem _ h)⟩⟩
end
end Wf
set_option Elab.async false
set_option linter.all false
namespace Wf
open PySem L2
variable {G : Cr} {C : Orc}
section
variable {H0 H : Hp} {ρ0 ρ B0 B : List Addr} {ms : List Mrk} {σ : St} {env : Env} {S : Sto} {i : Nat} {p : Addr}
theorem ER.mine {o : HO} {x : Sl} (er : ER G H ρ B B0 σ env) (s : SR G H ρ B S) (h : H p = none) (hi : i < env.length) (hx : isOwn x = true) (hr : SlR G (upd H p o) ρ (p :: B) B0 (σ.set i (some (.ref p))) i x) : ER G (upd H p o) ρ (p :: B) B0 (σ.set i (some (.ref p))) (env.set i x) := by
  have b := er.ban (o := o) s h
  have hl := er.len
  have old : ∀ {j : Nat} {y : Sl} {a : Addr}, env[j]? = some y → isOwn y = true → σ[j]? = some (some (.ref a)) → a ≠ p := fun {j y a} e oy sj => by
    cases er.sl j y e with
    | un => cases oy
    | fz _ _ => cases oy
    | ol e1 hb _ hh _ => rw [e1] at sj; cases sj; exact ne_of_none hh h
    | od e1 hb _ hh _ => rw [e1] at sj; cases sj; exact ne_of_none hh h
  refine ⟨by rw [List.length_set, List.length_set]; exact hl, fun j y e => ?_, fun j k y z a e1 e2 o1 o2 s1 s2 => ?_⟩
  · by_cases hj : j = i
    · subst hj
      rw [List.getElem?_set_self hi] at e
      cases e
      exact hr
    · rw [List.getElem?_set_ne (Ne.symm hj)] at e
      cases b.sl j y e with
      | un => exact .un
      | fz e1 q => exact .fz (by rw [List.getElem?_set_ne (Ne.symm hj)]; exact e1) q
      | ol e1 hb hn hh q => exact .ol (by rw [List.getElem?_set_ne (Ne.symm hj)]; exact e1) hb hn hh q
      | od e1 hb hn hh q => exact .od (by rw [List.getElem?_set_ne (Ne.symm hj)]; exact e1) hb hn hh q
  · by_cases hj : j = i
    · by_cases hk : k = i
      · rw [hj, hk]
      · subst hj
        rw [List.getElem?_set_self (by rw [hl]; exact hi)] at s1
        rw [List.getElem?_set_ne (Ne.symm hk)] at e2 s2
        have s1' : (V.ref p) = .ref a := Option.some.inj (Option.some.inj s1)
        cases s1'
        exact absurd rfl (old e2 o2 s2)
    · by_cases hk : k = i
      · subst hk
        rw [List.getElem?_set_self (by rw [hl]; exact hi)] at s2
        rw [List.getElem?_set_ne (Ne.symm hj)] at e1 s1
        have s2' : (V.ref p) = .ref a := Option.some.inj (Option.some.inj s2)
        cases s2'
        exact absurd rfl (old e1 o1 s1)
      · rw [List.getElem?_set_ne (Ne.symm hj)] at e1 s1
        rw [List.getElem?_set_ne (Ne.symm hk)] at e2 s2
        exact er.apart j k y z a e1 e2 o1 o2 s1 s2
/-- a new thing that is owned by the slot -/
theorem RS.mine {o : HO} {x : Sl} (r : RS G H0 ρ0 B0 ms σ H env S ρ B) (h : H p = none) (hi : i < env.length) (hx : isOwn x = true) (hr : p ∉ B0 → SlR G (upd H p o) ρ (p :: B) B0 (σ.set i (some (.ref p))) i x) : RS G H0 ρ0 B0 ms (σ.set i (some (.ref p))) (upd H p o) (env.set i x) S ρ (p :: B) := by
  have pB : p ∉ B := fun z => (r.sr.bt p z).1 h
  have pB0 : p ∉ B0 := fun z => pB (r.sub p z)
  have h0 : H0 p = none := Classical.byContradiction fun q => r.ext.there p q h
  refine ⟨r.sr.ban h, r.er.mine r.sr h hi hx (hr pB0), fun a ha => List.mem_cons_of_mem _ (r.sub a ha), fun a ha n => ?_, r.ext.trans (Ext.laid h), fun m hm => (r.mks m hm).ban r.sr h⟩
  rcases List.mem_cons.mp ha with z | z
  · rw [z]; exact h0
  · exact r.new a z n
/-- an owned thing is changed -/
theorem RS.wrote {a : Addr} {o : HO} {x y : Sl} (r : RS G H0 ρ0 B0 ms σ H env S ρ B) (hx : env[i]? = some x) (hox : isOwn x = true) (hs : σ[i]? = some (some (.ref a))) (hb : a ∈ B) (hn : a ∉ B0) (mo : Mut (H a)) (hoy : isOwn y = true)
    (hr : Keep G H ρ B (upd H a o) ρ B → SlR G (upd H a o) ρ B B0 σ i y) : RS G H0 ρ0 B0 ms σ (upd H a o) (env.set i y) S ρ B := by
  have k : Keep G H ρ B (upd H a o) ρ B := keep_own hb mo
  have hi : i < env.length := (List.getElem?_eq_some_iff.mp hx).1
  have nr := (r.sr.bt a hb).2
  have h0 := r.new a hb hn
  refine ⟨r.sr.own hb mo, ⟨by rw [List.length_set]; exact r.er.len, fun j z e => ?_, fun j k z w b e1 e2 o1 o2 s1 s2 => ?_⟩, r.sub, r.new, ⟨fun b u e n => ?_, fun b e => ?_, r.ext.new⟩, fun m hm => (r.mks m hm).write hb mo⟩
  · by_cases hj : j = i
    · subst hj
      rw [List.getElem?_set_self hi] at e
      cases e
      exact hr k
    · rw [List.getElem?_set_ne (Ne.symm hj)] at e
      have ne : ∀ {b : Addr}, isOwn z = true → σ[j]? = some (some (.ref b)) → b ≠ a := fun {b} oz sj q => by
        subst q
        exact hj (r.er.apart j i z x b e hx oz hox sj hs)
      cases r.er.sl j z e with
      | un => exact .un
      | fz e1 q => exact .fz e1 (VR.mono k _ _ q)
      | ol e1 hb' hn' hh q => exact .ol e1 hb' hn' (by rw [upd_ne (ne rfl e1)]; exact hh) (VRs.mono k _ _ q)
      | od e1 hb' hn' hh q => exact .od e1 hb' hn' (by rw [upd_ne (ne rfl e1)]; exact hh) (VRk.mono k _ _ q)
  · have back : ∀ {j : Nat} {z : Sl}, (env.set i y)[j]? = some z → isOwn z = true → ∃ z', env[j]? = some z' ∧ isOwn z' = true := fun {j z} e oz => by
      by_cases hj : j = i
      · subst hj; exact ⟨x, hx, hox⟩
      · rw [List.getElem?_set_ne (Ne.symm hj)] at e; exact ⟨z, e, oz⟩
    obtain ⟨z1, q1, p1⟩ := back e1 o1
    obtain ⟨z2, q2, p2⟩ := back e2 o2
    exact r.er.apart j k z1 z2 b q1 q2 p1 p2 s1 s2
  · have ne : b ≠ a := fun z => by rw [z, h0] at e; cases e
    rw [upd_ne ne]
    exact r.ext.keep b u e n
  · by_cases z : b = a
    · rw [z, upd_same]; simp
    · rw [upd_ne z]; exact r.ext.there b e
end
section
variable {X : Cx} {e tg : Expr} {ex ec : E} {t : T} {pos : Pos} {st : Stmt} {i : Nat}
theorem asg_of (h : PS X st (tAsg (tE G C ex) (gName i))) : PS X st (tS G C (.asg (.nm i) ex)) :=
  impS h fun De σ H ⟨H0, ρ0, B0, ms, env, S, ρ, B, fl, r, ev, q⟩ => by
    rw [evS] at ev
    obtain ⟨⟨d, S1⟩, e1, e2⟩ := Option.bind_eq_some_iff.mp ev
    obtain ⟨env1, e3, e4⟩ := Option.map_eq_some_iff.mp e2
    cases e4
    rw [asgT] at e3
    cases e3
    exact ⟨env, S, ρ, B, B0, d, S1, r.sr, r.er, e1, fun v H1 ρ1 x1 s1 r1 => q _ _ _ _ ⟨s1, (r.er.ext r.sr x1).set r1, r.sub, r.new, r.ext.trans x1, fun m h => (r.mks m h).ext r.sr x1⟩⟩
theorem asgF {σ : St} {H : Hp} {De : Ends} : tAsg (tE G C ex) (gName i) De σ H → tAsg (tF G C ex) (gName i) De σ H := fun ⟨env, S, ρ, B, B0, d, S', s, er, ev, q⟩ =>
  ⟨env, S, ρ, B, B0, d, S', s, er, ev, fun H' ρ' x s' => Fin.of s' fun v H2 x2 s2 r => q v H2 ρ' (x.trans x2) s2 r⟩
theorem asg_ofF (h : PS X st (tAsg (tF G C ex) (gName i))) : PS X st (tS G C (.asg (.nm i) ex)) := asg_of (impS h fun _ _ _ w => asgF w)
theorem own_of (hlt : i < X.N.length) (h : PS X st (tAsg (tF G C ex) (gName i))) : PS X st (tS G C (.own i ex)) := by
  refine ⟨fun pins s0 σ H De I w => h.run pins s0 σ H De I ?_⟩
  obtain ⟨H0, ρ0, B0, ms, env, S, ρ, B, fl, r, ev, q⟩ := w
  rw [evS] at ev
  obtain ⟨⟨d, S1⟩, e1, e2⟩ := Option.bind_eq_some_iff.mp ev
  have hi : i < env.length := by rw [← r.er.len, I.len]; exact hlt
  refine ⟨env, S, ρ, B, B0, d, S1, r.sr, r.er, e1, fun H1 ρ1 x1 s1 => ⟨fun p o hp f => ?_, fun v H' x s' rv ht => ?_⟩⟩
  · have r1 := r.step x1 s1
    have hs : ∀ z : Addr, (σ.set i (some (.ref z)))[i]? = some (some (.ref z)) := fun z => List.getElem?_set_self (by rw [r.er.len]; exact hi)
    cases f with
    | lst rr =>
      cases e2
      exact q _ _ _ _ (r1.mine hp hi rfl fun nb => .ol (hs p) List.mem_cons_self nb upd_same (VRs.mono (keep_ban s1 hp) _ _ rr))
    | dct rr =>
      cases e2
      exact q _ _ _ _ (r1.mine hp hi rfl fun nb => .od (hs p) List.mem_cons_self nb upd_same (VRk.mono (keep_ban s1 hp) _ _ rr))
  · cases d <;> simp only [isT] at ht <;> first | (cases ht; done) | skip
    cases e2
/-- x = e of an ordinary e -/
theorem set_E {x : Str} {pos' : Pos} (hN : X.N.Nodup) (hi : X.N[i]? = some x) (hx : Loc X.env.scope x) (he : PE X e (tE G C ex)) (hs : swapsWith e (some (.Name x pos')) pos.line X.env = pure false) (hf : X.fn x = true ∨ X.env.scope.names.lookup x = some .local) :
    PS X (.Assign [.Name x pos'] e pos) (tAsg (tE G C ex) (gName i)) := ps_set hN hi hx he hs hf
theorem set_F {x : Str} {pos' : Pos} (hN : X.N.Nodup) (hi : X.N[i]? = some x) (hx : Loc X.env.scope x) (he : PE X e (tF G C ex)) (hs : swapsWith e (some (.Name x pos')) pos.line X.env = pure false) (hf : X.fn x = true ∨ X.env.scope.names.lookup x = some .local) :
    PS X (.Assign [.Name x pos'] e pos) (tAsg (tF G C ex) (gName i)) := ps_set hN hi hx he hs hf
/-- a, b = e1, e2 -/
theorem sim_par {j : Nat} {x y : Str} {a b : Expr} {px py pt pt2 : Pos} {kt k2 : Nat} {exs : Es} (hc : X.calm = true) (hN : X.N.Nodup) (hi : X.N[i]? = some x) (hj : X.N[j]? = some y) (hij : i ≠ j) (hx : X.env.scope.names.lookup x = some .local) (hy : X.env.scope.names.lookup y = some .local) (ha : PA X [a, b] (tEs G C exs))
    (hw : swappedStores [.Tuple [.Name x px, .Name y py] kt pt] (.Tuple [a, b] k2 pt2) X.env = pure (some [x, y])) : PS X (.Assign [.Tuple [.Name x px, .Name y py] kt pt] (.Tuple [a, b] k2 pt2) pos) (tS G C (.asg (.tp (.cons (.nm i) (.cons (.nm j) .nil))) (.tup exs))) :=
  impS (ps_par hc hN hi hj hij hx hy ha hw rfl) fun De σ H ⟨H0, ρ0, B0, ms, env, S, ρ, B, fl, r, ev, q⟩ => by
    rw [evS] at ev
    obtain ⟨⟨d, S1⟩, e1, e2⟩ := Option.bind_eq_some_iff.mp ev
    obtain ⟨env1, e3, e4⟩ := Option.map_eq_some_iff.mp e2
    cases e4
    rw [evE] at e1
    obtain ⟨⟨ds, S2⟩, e5, e6⟩ := Option.bind_eq_some_iff.mp e1
    split at e6
    · cases e6
      refine ⟨env, S, ρ, B, B0, ds, S2, r.sr, r.er, e5, fun vs H1 ρ1 x1 s1 r1 => ?_⟩
      rw [asgT] at e3
      have hl := asgTs_len (show asgTs _ ds env = some env1 from e3)
      cases r1 with
      | nil => cases hl
      | cons ra r2 =>
        cases r2 with
        | nil => cases hl
        | cons rb r3 =>
          cases r3 with
          | cons _ _ => cases hl
          | nil =>
            have e3 : some (setS (setS env i _) j _) = some env1 := e3
            cases e3
            exact ⟨_, _, rfl, q _ _ _ _ ⟨s1, ((r.er.ext r.sr x1).set ra).set rb, r.sub, r.new, r.ext.trans x1, fun m h => (r.mks m h).ext r.sr x1⟩⟩
    · cases e6
theorem sim_par3 {j l : Nat} {x y z : Str} {a b c : Expr} {px py pz pt pt2 : Pos} {kt k2 : Nat} {exs : Es} (hc : X.calm = true) (hN : X.N.Nodup) (hi : X.N[i]? = some x) (hj : X.N[j]? = some y) (hl : X.N[l]? = some z) (hij : i ≠ j) (hil : i ≠ l) (hjl : j ≠ l)
    (hx : X.env.scope.names.lookup x = some .local) (hy : X.env.scope.names.lookup y = some .local) (hz : X.env.scope.names.lookup z = some .local) (ha : PA X [a, b, c] (tEs G C exs))
    (hw : swappedStores [.Tuple [.Name x px, .Name y py, .Name z pz] kt pt] (.Tuple [a, b, c] k2 pt2) X.env = pure (some [x, y, z])) : PS X (.Assign [.Tuple [.Name x px, .Name y py, .Name z pz] kt pt] (.Tuple [a, b, c] k2 pt2) pos) (tS G C (.asg (.tp (.cons (.nm i) (.cons (.nm j) (.cons (.nm l) .nil)))) (.tup exs))) :=
  impS (ps_par3 hc hN hi hj hl hij hil hjl hx hy hz ha hw rfl) fun De σ H ⟨H0, ρ0, B0, ms, env, S, ρ, B, fl, r, ev, q⟩ => by
    rw [evS] at ev
    obtain ⟨⟨d, S1⟩, e1, e2⟩ := Option.bind_eq_some_iff.mp ev
    obtain ⟨env1, e3, e4⟩ := Option.map_eq_some_iff.mp e2
    cases e4
    rw [evE] at e1
    obtain ⟨⟨ds, S2⟩, e5, e6⟩ := Option.bind_eq_some_iff.mp e1
    split at e6
    · cases e6
      refine ⟨env, S, ρ, B, B0, ds, S2, r.sr, r.er, e5, fun vs H1 ρ1 x1 s1 r1 => ?_⟩
      rw [asgT] at e3
      have hl := asgTs_len (show asgTs _ ds env = some env1 from e3)
      cases r1 with
      | nil => cases hl
      | cons ra r2 =>
        cases r2 with
        | nil => cases hl
        | cons rb r3 =>
          cases r3 with
          | nil => cases hl
          | cons rc r4 =>
            cases r4 with
            | cons _ _ => cases hl
            | nil =>
              have e3 : some (setS (setS (setS env i _) j _) l _) = some env1 := e3
              cases e3
              exact ⟨_, _, _, rfl, q _ _ _ _ ⟨s1, (((r.er.ext r.sr x1).set ra).set rb).set rc, r.sub, r.new, r.ext.trans x1, fun m h => (r.mks m h).ext r.sr x1⟩⟩
    · cases e6

/-! ### o[i] = e -/
def rPut : TSet := fun o i v H Q => rSetL o i v H Q ∨ ∃ a H4, o = .ref a ∧ DPut H a i v H4 ∧ Q H4
theorem set_any (hu : X.A.units + 1 < cLine) : PSet X rPut := by
  intro pins s σ H o i v ov iv u Q I ro ri rv h
  rcases h with h | ⟨a, H4, rfl, g, q⟩
  · exact set_list pins s σ H o i v ov iv u Q I ro ri rv h
  · obtain rfl : ov = Value.ref a := ro
    exact d_setItem hu I g ri rv fun s' I' => ⟨H4, I', q⟩
def noSlice : Expr → Bool
  | .Slice _ _ _ _ => false
  | _ => true
theorem asg_sub {o i : Expr} {env : PySem.Env} (h : noSlice i = true) (v : Value) : assign (.Subscript o i pos) env v = (do
      let ov ← holding [v] (eval o env)
      let iv ← holding [v, ov] (eval i env)
      standAt pos
      holding [v, ov, iv] (setItem ov iv v)
      release [v, ov, iv] []) := by
  cases i <;> first | rfl | cases h
theorem key_kV {G : Cr} {H : Hp} {ρ B : List Addr} {d : D} {k : Key} {v : V} (h : keyOf d = some k) (r : VR G H ρ B d v) : v = kV k := by
  cases d with
  | int i => cases h; cases r; rfl
  | str i => cases h; cases r; rfl
  | _ => cases h
theorem sim_put (hu : X.A.units + 1 < cLine) {o i : Expr} {eo ei : E} {pos' : Pos} (he : PE X e (tE G C ex)) (ho : PE X o (tE G C eo)) (hi : PE X i (tE G C ei)) (hni : noSlice i = true) (hs : swapsWithSole [.Subscript o i pos'] e pos.line X.env = pure false) :
    PS X (.Assign [.Subscript o i pos'] e pos) (tS G C (.put eo ei ex)) :=
  impS (ps_asg he (pg_sub ho hi (set_any hu) (asg_sub hni)) hs rfl rfl) fun De σ H ⟨H0, ρ0, B0, ms, env, S, ρ, B, fl, r, ev, q⟩ => by
    rw [evS] at ev
    obtain ⟨⟨d, S1⟩, ⟨d2, S2⟩, e1, e2, e3⟩ := bind2 ev
    obtain ⟨⟨d3, S3⟩, e4, e5⟩ := Option.bind_eq_some_iff.mp e3
    refine ⟨env, S, ρ, B, B0, d, S1, r.sr, r.er, e1, fun v H1 ρ1 x1 s1 r1 => ⟨env, S1, ρ1, B, B0, d2, S2, s1, r.er.ext r.sr x1, e2, fun w H2 ρ2 x2 s2 r2 => ⟨env, S2, ρ2, B, B0, d3, S3, s2, (r.er.ext r.sr x1).ext s1 x2, e4, fun z H3 ρ3 x3 s3 r3 => ?_⟩⟩⟩
    cases d2 <;> first | (cases e5; done) | skip
    rename_i a
    replace e5 : (S3[a]?).bind (fun ob => (putAt ob d3 d).map fun ob' => Fl.nx env (S3.set a ob')) = some fl := e5
    obtain ⟨ob, ob', e6, e7, e8⟩ : ∃ ob ob', S3[a]? = some ob ∧ putAt ob d3 d = some ob' ∧ Fl.nx env (S3.set a ob') = fl := by
      obtain ⟨ob, h1, h2⟩ := Option.bind_eq_some_iff.mp e5
      obtain ⟨ob', h3, h4⟩ := Option.map_eq_some_iff.mp h2
      exact ⟨ob, ob', h1, h3, h4⟩
    clear e5 e3 ev
    subst e8
    have x13 := (x1.trans x2).trans x3
    cases r2 with
    | ref ha =>
      have ha3 := (x3.keeps s2).ref _ _ ha
      have rd : VR G H3 ρ3 B d v := (r1.ext s1 x2).ext s2 x3
      cases s3.ob a _ _ e6 ha3 with
      | @lst _ ds vs h1 rr =>
        cases d3 <;> first | (cases e7; done) | skip
        rename_i ii
        obtain ⟨jj, e9, e10⟩ := Option.map_eq_some_iff.mp (show (ixN ds.length ii).map (fun j => Ob.lst (ds.set j d)) = some ob' from e7)
        subst e10
        cases r3
        refine .inl ⟨_, _, _, jj, rfl, rfl, h1, by rw [rr.length]; exact e9, ?_⟩
        obtain ⟨s4, x4⟩ := s3.write (o := .lst (vs.set jj v)) (ob := .lst (ds.set jj d)) ha3 e6 trivial fun k => .lst upd_same (VRs.mono k _ _ (rr.set rd jj))
        exact q _ _ _ _ ((r.step x13 s3).step x4 s4)
      | @dct _ ds vs h1 rr =>
        obtain ⟨k, e9, e10⟩ := Option.bind_eq_some_iff.mp (show (keyOf d3).bind (fun k => if ds.length < sizeLine then some (Ob.dct (put ds k d)) else none) = some ob' from e7)
        split at e10
        · rename_i hz
          cases e10
          cases key_kV e9 r3
          refine .inr ⟨_, _, rfl, DPut.k h1 (by rw [rr.length]; exact hz), ?_⟩
          obtain ⟨s4, x4⟩ := s3.write (o := .dK (putK vs k v)) (ob := .dct (put ds k d)) ha3 e6 trivial fun kk => .dct upd_same (VRk.mono kk _ _ (VRk.put rd rr))
          exact q _ _ _ _ ((r.step x13 s3).step x4 s4)
        · cases e10
      | ins h1 _ _ => cases e7
theorem sim_pst (hu : X.A.units + 1 < cLine) {i : Expr} {ei : E} {x : Str} {pos' pn : Pos} {n : Nat} (hN : X.N[n]? = some x) (hv : Vis X.env.scope x) (hd : (x == ("__debug__" : Str)) = false) (hcd : (x == ("__classdict__" : Str)) = false) (he : PE X e (tE G C ex)) (hi : PE X i (tE G C ei)) (hni : noSlice i = true)
    (hs : swapsWithSole [.Subscript (.Name x pn) i pos'] e pos.line X.env = pure false) : PS X (.Assign [.Subscript (.Name x pn) i pos'] e pos) (tS G C (.pst n ei ex)) :=
  impS (ps_asg he (pg_sub (pe_var hN hv hd hcd) hi (set_any hu) (asg_sub hni)) hs rfl rfl) fun De σ H ⟨H0, ρ0, B0, ms, env, S, ρ, B, fl, r, ev, q⟩ => by
    rw [evS] at ev
    obtain ⟨⟨d, S1⟩, ⟨d3, S3⟩, e1, e4, e5⟩ := bind2 ev
    refine ⟨env, S, ρ, B, B0, d, S1, r.sr, r.er, e1, fun v H1 ρ1 x1 s1 r1 => ?_⟩
    have rs1 := r.step x1 s1
    split at e5
    · rename_i ds hx
      obtain ⟨k, e9, e10⟩ := Option.bind_eq_some_iff.mp e5
      split at e10
      · rename_i hz
        cases e10
        cases r.er.sl n _ hx with
        | @od a _ vs es hb hn hh rr =>
          refine ⟨_, es, env, S1, ρ1, B, B0, d3, S3, s1, rs1.er, e4, fun z H3 ρ3 x3 s3 r3 => ?_⟩
          cases key_kV e9 r3
          have x13 := x1.trans x3
          have h3 : H3 a = some (.dK vs) := x13.keep _ _ hh (r.sr.bt a hb).2
          have rs3 := r.step x13 s3
          refine .inr ⟨_, _, rfl, DPut.k h3 (by rw [rr.length]; exact hz), ?_⟩
          refine q _ _ _ _ (rs3.wrote hx rfl es hb hn (by rw [h3]; trivial) rfl fun kk => .od es hb hn upd_same (VRk.mono kk _ _ (VRk.put (r1.ext s1 x3) (VRk.mono (x13.keeps r.sr) _ _ rr))))
      · cases e10
    · rename_i ds hx
      cases d3 <;> first | (cases e5; done) | skip
      rename_i ii
      obtain ⟨jj, e9, e10⟩ := Option.map_eq_some_iff.mp (show (ixN ds.length ii).map (fun j => Fl.nx (env.set n (.ol (ds.set j d))) S3) = some fl from e5)
      subst e10
      cases r.er.sl n _ hx with
      | @ol a _ vs es hb hn hh rr =>
        refine ⟨_, es, env, S1, ρ1, B, B0, _, S3, s1, rs1.er, e4, fun z H3 ρ3 x3 s3 r3 => ?_⟩
        cases r3
        have x13 := x1.trans x3
        have h3 : H3 a = some (.lst vs) := x13.keep _ _ hh (r.sr.bt a hb).2
        have rs3 := r.step x13 s3
        refine .inl ⟨_, _, _, jj, rfl, rfl, h3, by rw [rr.length]; exact e9, ?_⟩
        refine q _ _ _ _ (rs3.wrote hx rfl es hb hn (by rw [h3]; trivial) rfl fun kk => .ol es hb hn upd_same (VRs.mono kk _ _ ((VRs.mono (x13.keeps r.sr) _ _ rr).set (r1.ext s1 x3) jj)))
    · cases e5
theorem sim_apS {b : Expr} {eb : E} {x : Str} {apos pn cpos : Pos} {n : Nat} (hN : X.N[n]? = some x) (hv : Vis X.env.scope x) (hd : (x == ("__debug__" : Str)) = false) (hcd : (x == ("__classdict__" : Str)) = false) (hb : PE X b (tE G C eb)) (hl : (apos.endLine == cpos.line) = true) (hst : notStar b = true) :
    PS X (.Expr (.Call (.Attribute (.Name x pn) "append" apos) [b] [] cpos) pos) (tS G C (.apS n eb)) := by
  have hs1 : starEach [b] X.env = [(false, eval b X.env)] := star_cons hst
  refine impS (ps_expr (pe_bm PySem.F.plainAttrs_list PySem.F.slot_list_append PySem.F.type_list_append mt_append (pe_var hN hv hd hcd) (sim_cons hb sim_nil hs1) rfl (by rw [hs1]; rfl) hl hs1 rfl) rfl) fun De σ H ⟨H0, ρ0, B0, ms, env, S, ρ, B, fl, r, ev, q⟩ => ?_
  rw [evS] at ev
  obtain ⟨⟨d, S1⟩, e1, e2⟩ := Option.bind_eq_some_iff.mp ev
  split at e2
  · rename_i ds hx
    split at e2
    · rename_i hz
      cases e2
      cases r.er.sl n _ hx with
      | @ol a _ vs es hb' hn hh rr =>
        refine ⟨_, es, .inl ⟨rfl, _, SqL.of hh⟩, env, S, ρ, B, B0, [d], S1, r.sr, r.er, by rw [evEs, e1]; rfl, fun ws H1 ρ1 x1 s1 r1 => ?_⟩
        cases r1 with
        | cons ra rb =>
          cases rb
          have h3 : H1 a = some (.lst vs) := x1.keep _ _ hh (r.sr.bt a hb').2
          refine ⟨_, _, _, rfl, rfl, h3, by rw [rr.length]; exact hz, ?_⟩
          exact q _ _ _ _ ((r.step x1 s1).wrote hx rfl es hb' hn (by rw [h3]; trivial) rfl fun kk => .ol es hb' hn upd_same (VRs.mono kk _ _ ((VRs.mono (x1.keeps r.sr) _ _ rr).append (.cons ra .nil))))
    · cases e2
  · cases e2
end
end Wf
set_option Elab.async false
set_option linter.all false
namespace Wf
open PySem L2

/-! ### the look: a tree of the row is this tree -/
structure CS where
  f : Nat
  np : Nat
  kn : List Str
  perm : List Ag
structure Tb where
  nm : List Str
  cs : List CS
  gn : List Str
def visB (sc : Scope) (x : Str) : Bool := match sc.names.lookup x with
  | some .local => true | some .cell => true | some .free => true | _ => false
def locB (sc : Scope) (x : Str) : Bool := match sc.names.lookup x with
  | some .local => true | some .cell => true | _ => false
def lclB (sc : Scope) (x : Str) : Bool := match sc.names.lookup x with
  | some .local => true | _ => false
def glbB (sc : Scope) (x : Str) : Bool := match sc.names.lookup x with
  | some .globalImplicit => true | _ => false
def okN (x : Str) : Bool := !(x == ("__debug__" : Str)) && !(x == ("__classdict__" : Str))
def dEq : D → D → Bool
  | .non, .non => true
  | .bl a, .bl b => a == b
  | .int a, .int b => a == b
  | .str a, .str b => decide (a = b)
  | .tup [], .tup [] => true
  | _, _ => false
theorem dEq_eq {a b : D} (h : dEq a b = true) : a = b := by
  unfold dEq at h
  split at h
  · rfl
  · rw [beq_iff_eq.mp h]
  · rw [beq_iff_eq.mp h]
  · rw [of_decide_eq_true h]
  · rfl
  · cases h
def agEq : List Ag → List Ag → Bool
  | [], [] => true
  | .vi a :: r, .vi b :: s => a == b && agEq r s
  | .dv a :: r, .dv b :: s => dEq a b && agEq r s
  | _, _ => false
theorem agEq_eq : ∀ {a b : List Ag}, agEq a b = true → a = b
  | [], [], _ => rfl
  | .vi a :: r, .vi b :: s, h => by
    rw [agEq, Bool.and_eq_true] at h
    rw [beq_iff_eq.mp h.1, agEq_eq h.2]
  | .dv a :: r, .dv b :: s, h => by
    rw [agEq, Bool.and_eq_true] at h
    rw [dEq_eq h.1, agEq_eq h.2]
  | [], .vi _ :: _, h => by cases h
  | [], .dv _ :: _, h => by cases h
  | .vi _ :: _, [], h => by cases h
  | .dv _ :: _, [], h => by cases h
  | .vi _ :: _, .dv _ :: _, h => by cases h
  | .dv _ :: _, .vi _ :: _, h => by cases h
def csB (cs : List CS) (f np : Nat) (kn : List Str) (perm : List Ag) : Bool := cs.any fun c => c.f == f && c.np == np && decide (c.kn = kn) && agEq c.perm perm
theorem csB_mem {cs : List CS} {f np : Nat} {kn : List Str} {perm : List Ag} (h : csB cs f np kn perm = true) : (⟨f, np, kn, perm⟩ : CS) ∈ cs := by
  obtain ⟨c, hc, h⟩ := List.any_eq_true.mp h
  simp only [Bool.and_eq_true, beq_iff_eq, decide_eq_true_eq] at h
  obtain ⟨⟨⟨h1, h2⟩, h3⟩, h4⟩ := h
  have h4 := agEq_eq h4
  cases c
  subst h1 h2 h3 h4
  exact hc
/-- the names of keywords -/
def knOf : List Keyword → Option (List Str)
  | [] => some []
  | ⟨some k, _, _⟩ :: r => (knOf r).map (k :: ·)
  | ⟨none, _, _⟩ :: _ => none
theorem knOf_map : ∀ {kws : List Keyword} {kn : List Str}, knOf kws = some kn → kws.map Keyword.arg = kn.map some
  | [], _, h => by cases h; rfl
  | ⟨some k, v, p⟩ :: r, kn, h => by
    rw [knOf] at h
    obtain ⟨ks, h1, h2⟩ := Option.map_eq_some_iff.mp h
    subst h2
    show some k :: r.map Keyword.arg = some k :: ks.map some
    rw [knOf_map h1]
  | ⟨none, v, p⟩ :: r, _, h => by cases h
def notSet : Expr → Bool
  | .Set _ _ _ => false
  | _ => true
/-- a test by its value -/
def plainT : Expr → Bool
  | .UnaryOp .Not _ _ => false
  | .BoolOp _ _ _ => false
  | .IfExp _ _ _ _ => false
  | .Compare _ _ _ _ => false
  | _ => true
def tstOk : E → Expr → Bool
  | .nt a, .UnaryOp .Not x _ => tstOk a x
  | .and_ a b, .BoolOp .And [e1, e2] _ => tstOk a e1 && tstOk b e2
  | .and_ a b, .BoolOp .And (e1 :: e2 :: e3 :: es) p => tstOk a e1 && tstOk b (.BoolOp .And (e2 :: e3 :: es) p)
  | .or_ a b, .BoolOp .Or [e1, e2] _ => tstOk a e1 && tstOk b e2
  | .or_ a b, .BoolOp .Or (e1 :: e2 :: e3 :: es) p => tstOk a e1 && tstOk b (.BoolOp .Or (e2 :: e3 :: es) p)
  | .cmp _ _ _, .Compare _ _ _ _ => true
  | .chn _ _ _ _ _, .Compare _ _ _ _ => true
  | _, e => plainT e
def isFr : E → Bool
  | .lst _ => true | .dsp _ => true | .cut _ _ _ => true | .rev _ => true | .lc _ _ _ _ _ => true | _ => false
def opEq : Operator → Operator → Bool := fun a b => decide (a = b)
mutual
def chkT (N : List Str) (sc : Scope) (fb : Str → Bool) : T → Expr → Bool
  | .nm i, .Name x _ => decide (N[i]? = some x) && locB sc x && (fb x || lclB sc x)
  | .tp ts, .Tuple es _ _ => es.all notStar && chkTs N sc fb ts es
  | .st ts i, .Tuple es _ _ => (es.map unstar).all notStar && decide (es.findIdx? (fun e => !notStar e) = some i) && chkTs N sc fb ts (es.map unstar)
  | _, _ => false
def chkTs (N : List Str) (sc : Scope) (fb : Str → Bool) : Ts → List Expr → Bool
  | .nil, [] => true
  | .cons t ts, e :: es => chkT N sc fb t e && chkTs N sc fb ts es
  | _, _ => false
end
def ownP (N : List Str) (own : List Nat) : List (Str × Nat) := own.map fun i => (N[i]?.getD Str.empty, i)
mutual
def chkE (T : Tb) (N : List Str) (sc : Scope) (fb : Str → Bool) : E → Expr → Bool
  | .k (.int i), .Constant (.int j) _ _ => i == j
  | .k (.bl i), .Constant (.bool j) _ _ => i == j
  | .k (.str i), .Constant (.str j) _ _ => decide (i = j)
  | .k .non, .Constant .none _ _ => true
  | .v i, .Name x _ => decide (N[i]? = some x) && visB sc x && okN x
  | .gl i, .Name x _ => decide (T.gn[i]? = some x) && glbB sc x && okN x
  | .bin op a b, .BinOp x o y _ => opEq op o && chkE T N sc fb a x && chkE T N sc fb b y
  | .cmp op a b, .Compare x [o] [y] _ => decide (op = o) && chkP T N sc fb a x && chkP T N sc fb b y && !behindInMarks o y
  | .chn o1 o2 a b c, .Compare x [p1, p2] [y, z] _ => decide (o1 = p1) && decide (o2 = p2) && chkE T N sc fb a x && chkE T N sc fb b y && chkE T N sc fb c z && !lastMarks [p1, p2] [y, z]
  | .neg a, .UnaryOp .USub x _ => chkE T N sc fb a x
  | .nt a, .UnaryOp .Not x _ => chkE T N sc fb a x
  | .and_ a b, .BoolOp .And [e1, e2] _ => chkE T N sc fb a e1 && chkE T N sc fb b e2
  | .and_ a b, .BoolOp .And (e1 :: e2 :: e3 :: es) p => chkE T N sc fb a e1 && chkE T N sc fb b (.BoolOp .And (e2 :: e3 :: es) p)
  | .or_ a b, .BoolOp .Or [e1, e2] _ => chkE T N sc fb a e1 && chkE T N sc fb b e2
  | .or_ a b, .BoolOp .Or (e1 :: e2 :: e3 :: es) p => chkE T N sc fb a e1 && chkE T N sc fb b (.BoolOp .Or (e2 :: e3 :: es) p)
  | .ite c a b, .IfExp t x y _ => chkE T N sc fb c t && tstOk c t && chkE T N sc fb a x && chkE T N sc fb b y
  | .sub a i, .Subscript x y _ => chkP T N sc fb a x && noSlice y && chkE T N sc fb i y
  | .cut a lo hi, .Subscript x (.Slice l h none _) _ => chkP T N sc fb a x && chkO T N sc fb lo l && chkO T N sc fb hi h
  | .rev a, .Subscript x (.Slice none none (some (.UnaryOp .USub (.Constant (.int 1) _ _) _)) _) _ => chkP T N sc fb a x
  | .tup es, .Tuple xs _ _ => chkEs T N sc fb es xs
  | .lst es, .List xs _ => chkEs T N sc fb es xs
  | .dsp ps, .Dict ks vs _ => chkPs T N sc fb ps ks vs && !ks.isEmpty && decide (ks.length ≤ 15)
  | .bi f qs, .Call (.Name x _) (e :: es) [] _ => decide (x = biName f) && glbB sc x && chkQs T N sc fb qs (e :: es)
  | .call f es ks perm, .Call (.Name x _) args kws _ => decide (T.nm[f]? = some x) && glbB sc x && okN x && chkEs T N sc fb es args && chkKs T N sc fb ks kws && (match knOf kws with | some kn => csB T.cs f args.length kn perm | none => false)
  | .lc own t it c elt, .ListComp x [⟨tg, iter, ifs, 0⟩] scope _ => chkI T N sc fb it iter && notSet iter && blkC N sc scope (ownP N own) && chkT N (relS scope sc) (fun x => scope.names.lookup x == some .cell) t tg && (t.sl.all fun i => own.contains i) &&
      chkC T N (relS scope sc) (fun x => scope.names.lookup x == some .cell) c ifs && chkE T N (relS scope sc) (fun x => scope.names.lookup x == some .cell) elt x
  | .box a, e => isFr a && chkE T N sc fb a e
  | .pop a, .Call (.Attribute x m ap) [] [] p => decide (m = "pop") && chkE T N sc fb a x && noSup x && (ap.endLine == p.line)
  | .app a b, .Call (.Attribute x m ap) [y] [] p => decide (m = "append") && chkE T N sc fb a x && chkE T N sc fb b y && noSup x && (ap.endLine == p.line) && notStar y
  | _, _ => false
def chkP (T : Tb) (N : List Str) (sc : Scope) (fb : Str → Bool) : P → Expr → Bool
  | .e ex, e => chkE T N sc fb ex e
  | .pk i, .Name x _ => decide (N[i]? = some x) && visB sc x && okN x
  | _, _ => false
def chkQs (T : Tb) (N : List Str) (sc : Scope) (fb : Str → Bool) : Qs → List Expr → Bool
  | .nil, [] => true
  | .cons p ps, e :: es => notStar e && chkP T N sc fb p e && chkQs T N sc fb ps es
  | _, _ => false
def chkO (T : Tb) (N : List Str) (sc : Scope) (fb : Str → Bool) : Oe → Option Expr → Bool
  | .none, none => true
  | .some ex, some e => chkE T N sc fb ex e
  | _, _ => false
def chkC (T : Tb) (N : List Str) (sc : Scope) (fb : Str → Bool) : Oe → List Expr → Bool
  | .none, [] => true
  | .some ex, [e] => chkE T N sc fb ex e && tstOk ex e
  | _, _ => false
def chkEs (T : Tb) (N : List Str) (sc : Scope) (fb : Str → Bool) : Es → List Expr → Bool
  | .nil, [] => true
  | .cons p ps, e :: es => notStar e && chkE T N sc fb p e && chkEs T N sc fb ps es
  | _, _ => false
def chkKs (T : Tb) (N : List Str) (sc : Scope) (fb : Str → Bool) : Es → List Keyword → Bool
  | .nil, [] => true
  | .cons p ps, ⟨_, e, _⟩ :: es => chkE T N sc fb p e && chkKs T N sc fb ps es
  | _, _ => false
def chkPs (T : Tb) (N : List Str) (sc : Scope) (fb : Str → Bool) : Ps → List (Option Expr) → List Expr → Bool
  | .nil, [], [] => true
  | .cons k v ps, some a :: ks, b :: vs => chkE T N sc fb k a && chkE T N sc fb v b && chkPs T N sc fb ps ks vs
  | _, _, _ => false
def chkI (T : Tb) (N : List Str) (sc : Scope) (fb : Str → Bool) : It → Expr → Bool
  | .seq ex, e => chkE T N sc fb ex e
  | .rng1 a, .Call (.Name x _) [y] [] _ => decide (x = "range") && glbB sc x && chkE T N sc fb a y && notStar y
  | .rng2 a b, .Call (.Name x _) [y, z] [] _ => decide (x = "range") && glbB sc x && chkE T N sc fb a y && chkE T N sc fb b z && notStar y && notStar z
  | _, _ => false
end
end Wf
set_option Elab.async false
set_option linter.all false
namespace Wf
open PySem L2
variable {G : Cr} {C : Orc} {tb : Tb} {n : Nat}

/-- where one stands: everything that the look leans on -/
structure Gd (G : Cr) (C : Orc) (tb : Tb) (n : Nat) (X : Cx) : Prop where
  K : X.K = G.K
  w : X.w = G.w
  calm : X.calm = true
  nd : X.N.Nodup
  xe : PassesOwn (model X.prog X.w) X.A X.env X.xe
  room : Room n X.A
  gds : X.A.guards = some []
  bi : ∀ f : Bi, X.mg (biName f) = none
  rng : X.mg "range" = none
  cs : ∀ c ∈ tb.cs, ∃ x fa fd ps, tb.nm[c.f]? = some x ∧ X.mg x = some (.ref fa) ∧ PySem.W.keepIn X.K (.ref fa) = true ∧ CB G fd ps c.np c.kn c.perm ∧ FnG X.prog X.w X.K X.mg X.base n fa fd ps (spOf G (C.call c.f))
  gl : ∀ (i : Nat) (x : Str), tb.gn[i]? = some x → ∃ u v, X.mg x = some u ∧ RelV v u ∧ ∀ d, C.gl[i]? = some d → ∀ H ρ B, VR G H ρ B d v
section
variable {X : Cx}
theorem Gd.u64 (g : Gd G C tb n X) : X.A.units + 64 < cLine := g.room.units
theorem Gd.u66 (g : Gd G C tb n X) : X.A.units + 66 < cLine := by have := g.room.un; omega
theorem Gd.u1 (g : Gd G C tb n X) : X.A.units + 1 < cLine := by have := g.room.un; omega
theorem Gd.blk (g : Gd G C tb n X) (s : Shared) (H : Hp) (scope : Scope) (cenv : PySem.Env) (fp : List Addr) : Gd G C tb n (X.blk s H scope cenv fp) :=
  ⟨g.K, g.w, g.calm, g.nd, PassesOwn.never, g.room, g.gds, g.bi, g.rng, g.cs, g.gl⟩
theorem vis_of {sc : Scope} {x : Str} (h : visB sc x = true) : Vis sc x := by
  unfold visB at h
  split at h
  · exact .inl (by assumption)
  · exact .inr (.inl (by assumption))
  · exact .inr (.inr (by assumption))
  · cases h
theorem loc_of {sc : Scope} {x : Str} (h : locB sc x = true) : Loc sc x := by
  unfold locB at h
  split at h
  · exact .inl (by assumption)
  · exact .inr (by assumption)
  · cases h
theorem lcl_of {sc : Scope} {x : Str} (h : lclB sc x = true) : sc.names.lookup x = some .local := by
  unfold lclB at h
  split at h
  · assumption
  · cases h
theorem glb_of {x : Str} (h : glbB X.env.scope x = true) : Gl X x := by
  unfold glbB at h
  split at h
  · assumption
  · cases h
theorem okN_of {x : Str} (h : okN x = true) : (x == ("__debug__" : Str)) = false ∧ (x == ("__classdict__" : Str)) = false := by
  unfold okN at h
  rw [Bool.and_eq_true, Bool.not_eq_true', Bool.not_eq_true'] at h
  exact h

/-! ### targets -/
theorem each_len (env : PySem.Env) : ∀ es : List Expr, (assignEach es env).length = es.length
  | [] => rfl
  | e :: es => by
    have := each_len env es
    cases e <;> exact congrArg Nat.succ this
theorem each_cons {e : Expr} {es : List Expr} {env : PySem.Env} (h : notStar e = true) : (assignEach (e :: es) env).map (·.2) = assign e env :: (assignEach es env).map (·.2) := by
  cases e <;> first | rfl | cases h
theorem each_idx (env : PySem.Env) : ∀ es : List Expr, (assignEach es env).findIdx? (·.1) = es.findIdx? (fun e => !notStar e)
  | [] => rfl
  | e :: es => by
    have ih := each_idx env es
    cases e <;> first
      | (show ((false, _) :: assignEach es env).findIdx? (·.1) = _; rw [List.findIdx?_cons, List.findIdx?_cons, ih]; rfl)
      | (show ((true, _) :: assignEach es env).findIdx? (·.1) = _; rw [List.findIdx?_cons, List.findIdx?_cons]; rfl)
theorem all_idx : ∀ {es : List Expr}, es.all notStar = true → es.findIdx? (fun e => !notStar e) = none
  | [], _ => rfl
  | e :: es, h => by
    rw [List.all_cons, Bool.and_eq_true] at h
    rw [List.findIdx?_cons, h.1, all_idx h.2]
    rfl
theorem unstar_all {es : List Expr} (h : (es.map unstar).all notStar = true) : (es.map unstar).all (fun e => match e with | .Starred _ _ => false | _ => true) = true := by
  have e : notStar = (fun e => match e with | .Starred _ _ => false | _ => true) := by funext e; cases e <;> rfl
  rw [← e]
  exact h
theorem chkTs_len {N : List Str} {sc : Scope} {fb : Str → Bool} : ∀ {ts : Ts} {es : List Expr}, chkTs N sc fb ts es = true → es.length = ts.len
  | .nil, [], _ => rfl
  | .nil, _ :: _, h => by rw [chkTs] at h <;> first | (cases h; done) | (intros; simp_all)
  | .cons _ _, [], h => by rw [chkTs] at h <;> first | (cases h; done) | (intros; simp_all)
  | .cons t ts, e :: es, h => by
    rw [chkTs, Bool.and_eq_true] at h
    exact congrArg Nat.succ (chkTs_len h.2)
mutual
theorem sndT (hc : X.calm = true) (hK : X.K = G.K) (hN : X.N.Nodup) : ∀ (t : T) (e : Expr), chkT X.N X.env.scope X.fn t e = true → PG X e (tG G t)
  | .nm i, e, h => by
    cases e <;> first | (rw [chkT] at h <;> first | (cases h; done) | (intros; simp_all; done)) | skip
    rename_i x p
    rw [chkT, Bool.and_eq_true, Bool.and_eq_true, Bool.or_eq_true, decide_eq_true_eq] at h
    exact sim_nm hN h.1.1 (loc_of h.1.2) (h.2.imp id lcl_of)
  | .tp ts, e, h => by
    cases e <;> first | (rw [chkT] at h <;> first | (cases h; done) | (intros; simp_all; done)) | skip
    rename_i es k p
    rw [chkT, Bool.and_eq_true] at h
    exact sim_tp hc hK (sndTs hc hK hN ts es h.2 h.1) (by rw [each_len, chkTs_len h.2]) (by rw [each_idx, all_idx h.1])
  | .st ts i, e, h => by
    cases e <;> first | (rw [chkT] at h <;> first | (cases h; done) | (intros; simp_all; done)) | skip
    rename_i es k p
    rw [chkT, Bool.and_eq_true, Bool.and_eq_true, decide_eq_true_eq] at h
    exact sim_st hc hK (sndTs hc hK hN ts _ h.2 h.1.1) (unstar_all h.1.1) (by rw [each_len, ← chkTs_len h.2, List.length_map]) (by rw [each_idx, h.1.2])
theorem sndTs (hc : X.calm = true) (hK : X.K = G.K) (hN : X.N.Nodup) : ∀ (ts : Ts) (es : List Expr), chkTs X.N X.env.scope X.fn ts es = true → es.all notStar = true → PGs X es (tGs G ts)
  | .nil, [], _, _ => simG_nil
  | .nil, _ :: _, h, _ => by rw [chkTs] at h <;> first | (cases h; done) | (intros; simp_all)
  | .cons _ _, [], h, _ => by rw [chkTs] at h <;> first | (cases h; done) | (intros; simp_all)
  | .cons t ts, e :: es, h, hs => by
    rw [chkTs, Bool.and_eq_true] at h
    rw [List.all_cons, Bool.and_eq_true] at hs
    exact simG_cons (sndT hc hK hN t e h.1) (sndTs hc hK hN ts es h.2 hs.2) (each_cons hs.1)
end
end
end Wf
set_option Elab.async false
set_option linter.all false
namespace Wf
open PySem L2

theorem invE_v {T N sc fb i X0} (h : chkE T N sc fb (.v i) X0 = true) : ∃ x w1, X0 = .Name x w1 ∧ (decide (N[i]? = some x) && visB sc x && okN x) = true := by
  unfold chkE at h; split at h
  all_goals first | (cases h; done) | skip
  all_goals rename_i h1
  all_goals first | (cases h1; done) | skip
  all_goals cases h1
  all_goals exact ⟨_, _, rfl, h⟩
theorem invE_gl {T N sc fb i X0} (h : chkE T N sc fb (.gl i) X0 = true) : ∃ x w1, X0 = .Name x w1 ∧ (decide (T.gn[i]? = some x) && glbB sc x && okN x) = true := by
  unfold chkE at h; split at h
  all_goals first | (cases h; done) | skip
  all_goals rename_i h1
  all_goals first | (cases h1; done) | skip
  all_goals cases h1
  all_goals exact ⟨_, _, rfl, h⟩
theorem invE_bin {T N sc fb op a b X0} (h : chkE T N sc fb (.bin op a b) X0 = true) : ∃ x o y w1, X0 = .BinOp x o y w1 ∧ (opEq op o && chkE T N sc fb a x && chkE T N sc fb b y) = true := by
  unfold chkE at h; split at h
  all_goals first | (cases h; done) | skip
  all_goals rename_i h1
  all_goals first | (cases h1; done) | skip
  all_goals cases h1
  all_goals exact ⟨_, _, _, _, rfl, h⟩
theorem invE_cmp {T N sc fb op a b X0} (h : chkE T N sc fb (.cmp op a b) X0 = true) : ∃ x o y w1, X0 = .Compare x [o] [y] w1 ∧ (decide (op = o) && chkP T N sc fb a x && chkP T N sc fb b y && !behindInMarks o y) = true := by
  unfold chkE at h; split at h
  all_goals first | (cases h; done) | skip
  all_goals rename_i h1
  all_goals first | (cases h1; done) | skip
  all_goals cases h1
  all_goals exact ⟨_, _, _, _, rfl, h⟩
theorem invE_chn {T N sc fb o1 o2 a b c X0} (h : chkE T N sc fb (.chn o1 o2 a b c) X0 = true) : ∃ x p1 p2 y z w1, X0 = .Compare x [p1, p2] [y, z] w1 ∧ (decide (o1 = p1) && decide (o2 = p2) && chkE T N sc fb a x && chkE T N sc fb b y && chkE T N sc fb c z && !lastMarks [p1, p2] [y, z]) = true := by
  unfold chkE at h; split at h
  all_goals first | (cases h; done) | skip
  all_goals rename_i h1
  all_goals first | (cases h1; done) | skip
  all_goals cases h1
  all_goals exact ⟨_, _, _, _, _, _, rfl, h⟩
theorem invE_neg {T N sc fb a X0} (h : chkE T N sc fb (.neg a) X0 = true) : ∃ x w1, X0 = .UnaryOp .USub x w1 ∧ (chkE T N sc fb a x) = true := by
  unfold chkE at h; split at h
  all_goals first | (cases h; done) | skip
  all_goals rename_i h1
  all_goals first | (cases h1; done) | skip
  all_goals cases h1
  all_goals exact ⟨_, _, rfl, h⟩
theorem invE_nt {T N sc fb a X0} (h : chkE T N sc fb (.nt a) X0 = true) : ∃ x w1, X0 = .UnaryOp .Not x w1 ∧ (chkE T N sc fb a x) = true := by
  unfold chkE at h; split at h
  all_goals first | (cases h; done) | skip
  all_goals rename_i h1
  all_goals first | (cases h1; done) | skip
  all_goals cases h1
  all_goals exact ⟨_, _, rfl, h⟩
theorem invE_ite {T N sc fb c a b X0} (h : chkE T N sc fb (.ite c a b) X0 = true) : ∃ t x y w1, X0 = .IfExp t x y w1 ∧ (chkE T N sc fb c t && tstOk c t && chkE T N sc fb a x && chkE T N sc fb b y) = true := by
  unfold chkE at h; split at h
  all_goals first | (cases h; done) | skip
  all_goals rename_i h1
  all_goals first | (cases h1; done) | skip
  all_goals cases h1
  all_goals exact ⟨_, _, _, _, rfl, h⟩
theorem invE_sub {T N sc fb a i X0} (h : chkE T N sc fb (.sub a i) X0 = true) : ∃ x y w1, X0 = .Subscript x y w1 ∧ (chkP T N sc fb a x && noSlice y && chkE T N sc fb i y) = true := by
  unfold chkE at h; split at h
  all_goals first | (cases h; done) | skip
  all_goals rename_i h1
  all_goals first | (cases h1; done) | skip
  all_goals cases h1
  all_goals exact ⟨_, _, _, rfl, h⟩
theorem invE_cut {T N sc fb a lo hi X0} (h : chkE T N sc fb (.cut a lo hi) X0 = true) : ∃ x l h w1 w2, X0 = .Subscript x (.Slice l h none w1) w2 ∧ (chkP T N sc fb a x && chkO T N sc fb lo l && chkO T N sc fb hi h) = true := by
  unfold chkE at h; split at h
  all_goals first | (cases h; done) | skip
  all_goals rename_i h1
  all_goals first | (cases h1; done) | skip
  all_goals cases h1
  all_goals exact ⟨_, _, _, _, _, rfl, h⟩
theorem invE_rev {T N sc fb a X0} (h : chkE T N sc fb (.rev a) X0 = true) : ∃ x w1 w2 w3 w4 w5, X0 = .Subscript x (.Slice none none (some (.UnaryOp .USub (.Constant (.int 1) w1 w2) w3)) w4) w5 ∧ (chkP T N sc fb a x) = true := by
  unfold chkE at h; split at h
  all_goals first | (cases h; done) | skip
  all_goals rename_i h1
  all_goals first | (cases h1; done) | skip
  all_goals cases h1
  all_goals exact ⟨_, _, _, _, _, _, rfl, h⟩
theorem invE_tup {T N sc fb es X0} (h : chkE T N sc fb (.tup es) X0 = true) : ∃ xs w1 w2, X0 = .Tuple xs w1 w2 ∧ (chkEs T N sc fb es xs) = true := by
  unfold chkE at h; split at h
  all_goals first | (cases h; done) | skip
  all_goals rename_i h1
  all_goals first | (cases h1; done) | skip
  all_goals cases h1
  all_goals exact ⟨_, _, _, rfl, h⟩
theorem invE_lst {T N sc fb es X0} (h : chkE T N sc fb (.lst es) X0 = true) : ∃ xs w1, X0 = .List xs w1 ∧ (chkEs T N sc fb es xs) = true := by
  unfold chkE at h; split at h
  all_goals first | (cases h; done) | skip
  all_goals rename_i h1
  all_goals first | (cases h1; done) | skip
  all_goals cases h1
  all_goals exact ⟨_, _, rfl, h⟩
theorem invE_dsp {T N sc fb ps X0} (h : chkE T N sc fb (.dsp ps) X0 = true) : ∃ ks vs w1, X0 = .Dict ks vs w1 ∧ (chkPs T N sc fb ps ks vs && !ks.isEmpty && decide (ks.length ≤ 15)) = true := by
  unfold chkE at h; split at h
  all_goals first | (cases h; done) | skip
  all_goals rename_i h1
  all_goals first | (cases h1; done) | skip
  all_goals cases h1
  all_goals exact ⟨_, _, _, rfl, h⟩
theorem invE_bi {T N sc fb f qs X0} (h : chkE T N sc fb (.bi f qs) X0 = true) : ∃ x w1 e es w2, X0 = .Call (.Name x w1) (e :: es) [] w2 ∧ (decide (x = biName f) && glbB sc x && chkQs T N sc fb qs (e :: es)) = true := by
  unfold chkE at h; split at h
  all_goals first | (cases h; done) | skip
  all_goals rename_i h1
  all_goals first | (cases h1; done) | skip
  all_goals cases h1
  all_goals exact ⟨_, _, _, _, _, rfl, h⟩
theorem invE_call {T N sc fb f es ks perm X0} (h : chkE T N sc fb (.call f es ks perm) X0 = true) : ∃ x w1 args kws w2, X0 = .Call (.Name x w1) args kws w2 ∧ (decide (T.nm[f]? = some x) && glbB sc x && okN x && chkEs T N sc fb es args && chkKs T N sc fb ks kws && (match knOf kws with | some kn => csB T.cs f args.length kn perm | none => false)) = true := by
  unfold chkE at h; split at h
  all_goals first | (cases h; done) | skip
  all_goals rename_i h1
  all_goals first | (cases h1; done) | skip
  all_goals cases h1
  all_goals exact ⟨_, _, _, _, _, rfl, h⟩
theorem invE_lc {T N sc fb own t it c elt X0} (h : chkE T N sc fb (.lc own t it c elt) X0 = true) : ∃ x tg iter ifs scope w1, X0 = .ListComp x [⟨tg, iter, ifs, 0⟩] scope w1 ∧ (chkI T N sc fb it iter && notSet iter && blkC N sc scope (ownP N own) && chkT N (relS scope sc) (fun x => scope.names.lookup x == some .cell) t tg && (t.sl.all fun i => own.contains i) && chkC T N (relS scope sc) (fun x => scope.names.lookup x == some .cell) c ifs && chkE T N (relS scope sc) (fun x => scope.names.lookup x == some .cell) elt x) = true := by
  unfold chkE at h; split at h
  all_goals first | (cases h; done) | skip
  all_goals rename_i h1
  all_goals first | (cases h1; done) | skip
  all_goals cases h1
  all_goals exact ⟨_, _, _, _, _, _, rfl, h⟩
theorem invE_pop {T N sc fb a X0} (h : chkE T N sc fb (.pop a) X0 = true) : ∃ x m ap p, X0 = .Call (.Attribute x m ap) [] [] p ∧ (decide (m = "pop") && chkE T N sc fb a x && noSup x && (ap.endLine == p.line)) = true := by
  unfold chkE at h; split at h
  all_goals first | (cases h; done) | skip
  all_goals rename_i h1
  all_goals first | (cases h1; done) | skip
  all_goals cases h1
  all_goals exact ⟨_, _, _, _, rfl, h⟩
theorem invE_app {T N sc fb a b X0} (h : chkE T N sc fb (.app a b) X0 = true) : ∃ x m ap y p, X0 = .Call (.Attribute x m ap) [y] [] p ∧ (decide (m = "append") && chkE T N sc fb a x && chkE T N sc fb b y && noSup x && (ap.endLine == p.line) && notStar y) = true := by
  unfold chkE at h; split at h
  all_goals first | (cases h; done) | skip
  all_goals rename_i h1
  all_goals first | (cases h1; done) | skip
  all_goals cases h1
  all_goals exact ⟨_, _, _, _, _, rfl, h⟩
theorem invP_pk {T N sc fb i X0} (h : chkP T N sc fb (.pk i) X0 = true) : ∃ x w1, X0 = .Name x w1 ∧ (decide (N[i]? = some x) && visB sc x && okN x) = true := by
  unfold chkP at h; split at h
  all_goals first | (cases h; done) | skip
  all_goals rename_i h1
  all_goals first | (cases h1; done) | skip
  all_goals cases h1
  all_goals exact ⟨_, _, rfl, h⟩
theorem invQ_nil {T N sc fb X0} (h : chkQs T N sc fb (.nil) X0 = true) : X0 = [] ∧ (true) = true := by
  unfold chkQs at h; split at h
  all_goals first | (cases h; done) | skip
  all_goals rename_i h1
  all_goals first | (cases h1; done) | skip
  all_goals cases h1
  all_goals exact ⟨rfl, h⟩
theorem invQ_cons {T N sc fb p ps X0} (h : chkQs T N sc fb (.cons p ps) X0 = true) : ∃ e es, X0 = e :: es ∧ (notStar e && chkP T N sc fb p e && chkQs T N sc fb ps es) = true := by
  unfold chkQs at h; split at h
  all_goals first | (cases h; done) | skip
  all_goals rename_i h1
  all_goals first | (cases h1; done) | skip
  all_goals cases h1
  all_goals exact ⟨_, _, rfl, h⟩
theorem invO_none {T N sc fb X0} (h : chkO T N sc fb (.none) X0 = true) : X0 = none ∧ (true) = true := by
  unfold chkO at h; split at h
  all_goals first | (cases h; done) | skip
  all_goals rename_i h1
  all_goals first | (cases h1; done) | skip
  all_goals cases h1
  all_goals exact ⟨rfl, h⟩
theorem invO_some {T N sc fb ex X0} (h : chkO T N sc fb (.some ex) X0 = true) : ∃ e, X0 = some e ∧ (chkE T N sc fb ex e) = true := by
  unfold chkO at h; split at h
  all_goals first | (cases h; done) | skip
  all_goals rename_i h1
  all_goals first | (cases h1; done) | skip
  all_goals cases h1
  all_goals exact ⟨_, rfl, h⟩
theorem invC_none {T N sc fb X0} (h : chkC T N sc fb (.none) X0 = true) : X0 = [] ∧ (true) = true := by
  unfold chkC at h; split at h
  all_goals first | (cases h; done) | skip
  all_goals rename_i h1
  all_goals first | (cases h1; done) | skip
  all_goals cases h1
  all_goals exact ⟨rfl, h⟩
theorem invC_some {T N sc fb ex X0} (h : chkC T N sc fb (.some ex) X0 = true) : ∃ e, X0 = [e] ∧ (chkE T N sc fb ex e && tstOk ex e) = true := by
  unfold chkC at h; split at h
  all_goals first | (cases h; done) | skip
  all_goals rename_i h1
  all_goals first | (cases h1; done) | skip
  all_goals cases h1
  all_goals exact ⟨_, rfl, h⟩
theorem invEs_nil {T N sc fb X0} (h : chkEs T N sc fb (.nil) X0 = true) : X0 = [] ∧ (true) = true := by
  unfold chkEs at h; split at h
  all_goals first | (cases h; done) | skip
  all_goals rename_i h1
  all_goals first | (cases h1; done) | skip
  all_goals cases h1
  all_goals exact ⟨rfl, h⟩
theorem invEs_cons {T N sc fb p ps X0} (h : chkEs T N sc fb (.cons p ps) X0 = true) : ∃ e es, X0 = e :: es ∧ (notStar e && chkE T N sc fb p e && chkEs T N sc fb ps es) = true := by
  unfold chkEs at h; split at h
  all_goals first | (cases h; done) | skip
  all_goals rename_i h1
  all_goals first | (cases h1; done) | skip
  all_goals cases h1
  all_goals exact ⟨_, _, rfl, h⟩
theorem invKs_nil {T N sc fb X0} (h : chkKs T N sc fb (.nil) X0 = true) : X0 = [] ∧ (true) = true := by
  unfold chkKs at h; split at h
  all_goals first | (cases h; done) | skip
  all_goals rename_i h1
  all_goals first | (cases h1; done) | skip
  all_goals cases h1
  all_goals exact ⟨rfl, h⟩
theorem invKs_cons {T N sc fb p ps X0} (h : chkKs T N sc fb (.cons p ps) X0 = true) : ∃ w1 e w2 es, X0 = ⟨w1, e, w2⟩ :: es ∧ (chkE T N sc fb p e && chkKs T N sc fb ps es) = true := by
  unfold chkKs at h; split at h
  all_goals first | (cases h; done) | skip
  all_goals rename_i h1
  all_goals first | (cases h1; done) | skip
  all_goals cases h1
  all_goals exact ⟨_, _, _, _, rfl, h⟩
theorem invPs_nil {T N sc fb X0 X1} (h : chkPs T N sc fb (.nil) X0 X1 = true) : X0 = [] ∧ X1 = [] ∧ (true) = true := by
  unfold chkPs at h; split at h
  all_goals first | (cases h; done) | skip
  all_goals rename_i h1
  all_goals first | (cases h1; done) | skip
  all_goals cases h1
  all_goals exact ⟨rfl, rfl, h⟩
theorem invPs_cons {T N sc fb k v ps X0 X1} (h : chkPs T N sc fb (.cons k v ps) X0 X1 = true) : ∃ a ks b vs, X0 = some a :: ks ∧ X1 = b :: vs ∧ (chkE T N sc fb k a && chkE T N sc fb v b && chkPs T N sc fb ps ks vs) = true := by
  unfold chkPs at h; split at h
  all_goals first | (cases h; done) | skip
  all_goals rename_i h1
  all_goals first | (cases h1; done) | skip
  all_goals cases h1
  all_goals exact ⟨_, _, _, _, rfl, rfl, h⟩
theorem invI_rng1 {T N sc fb a X0} (h : chkI T N sc fb (.rng1 a) X0 = true) : ∃ x w1 y w2, X0 = .Call (.Name x w1) [y] [] w2 ∧ (decide (x = "range") && glbB sc x && chkE T N sc fb a y && notStar y) = true := by
  unfold chkI at h; split at h
  all_goals first | (cases h; done) | skip
  all_goals rename_i h1
  all_goals first | (cases h1; done) | skip
  all_goals cases h1
  all_goals exact ⟨_, _, _, _, rfl, h⟩
theorem invI_rng2 {T N sc fb a b X0} (h : chkI T N sc fb (.rng2 a b) X0 = true) : ∃ x w1 y z w2, X0 = .Call (.Name x w1) [y, z] [] w2 ∧ (decide (x = "range") && glbB sc x && chkE T N sc fb a y && chkE T N sc fb b z && notStar y && notStar z) = true := by
  unfold chkI at h; split at h
  all_goals first | (cases h; done) | skip
  all_goals rename_i h1
  all_goals first | (cases h1; done) | skip
  all_goals cases h1
  all_goals exact ⟨_, _, _, _, _, rfl, h⟩
end Wf
set_option Elab.async false
set_option linter.all false
namespace Wf
open PySem L2
theorem invE_k {T N sc fb d X0} (h : chkE T N sc fb (.k d) X0 = true) : (∃ i j p, d = .int i ∧ X0 = .Constant (.int i) j p) ∨ (∃ i j p, d = .bl i ∧ X0 = .Constant (.bool i) j p) ∨ (∃ i j p, d = .str i ∧ X0 = .Constant (.str i) j p) ∨ (∃ j p, d = .non ∧ X0 = .Constant .none j p) := by
  unfold chkE at h; split at h
  all_goals first | (cases h; done) | skip
  all_goals rename_i h1
  all_goals first | (cases h1; done) | skip
  all_goals cases h1
  · cases beq_iff_eq.mp h; exact .inl ⟨_, _, _, rfl, rfl⟩
  · cases beq_iff_eq.mp h; exact .inr (.inl ⟨_, _, _, rfl, rfl⟩)
  · cases of_decide_eq_true h; exact .inr (.inr (.inl ⟨_, _, _, rfl, rfl⟩))
  · exact .inr (.inr (.inr ⟨_, _, rfl, rfl⟩))
theorem invE_and {T N sc fb a b X0} (h : chkE T N sc fb (.and_ a b) X0 = true) : ∃ e1 e2 rest p, X0 = .BoolOp .And (e1 :: e2 :: rest) p ∧ chkE T N sc fb a e1 = true ∧ (rest = [] ∧ chkE T N sc fb b e2 = true ∨ ∃ e3 es, rest = e3 :: es ∧ chkE T N sc fb b (.BoolOp .And (e2 :: e3 :: es) p) = true) := by
  unfold chkE at h; split at h
  all_goals first | (cases h; done) | skip
  all_goals rename_i h1
  all_goals first | (cases h1; done) | skip
  all_goals cases h1
  all_goals rw [Bool.and_eq_true] at h
  · exact ⟨_, _, _, _, rfl, h.1, .inl ⟨rfl, h.2⟩⟩
  · exact ⟨_, _, _, _, rfl, h.1, .inr ⟨_, _, rfl, h.2⟩⟩
theorem invE_or {T N sc fb a b X0} (h : chkE T N sc fb (.or_ a b) X0 = true) : ∃ e1 e2 rest p, X0 = .BoolOp .Or (e1 :: e2 :: rest) p ∧ chkE T N sc fb a e1 = true ∧ (rest = [] ∧ chkE T N sc fb b e2 = true ∨ ∃ e3 es, rest = e3 :: es ∧ chkE T N sc fb b (.BoolOp .Or (e2 :: e3 :: es) p) = true) := by
  unfold chkE at h; split at h
  all_goals first | (cases h; done) | skip
  all_goals rename_i h1
  all_goals first | (cases h1; done) | skip
  all_goals cases h1
  all_goals rw [Bool.and_eq_true] at h
  · exact ⟨_, _, _, _, rfl, h.1, .inl ⟨rfl, h.2⟩⟩
  · exact ⟨_, _, _, _, rfl, h.1, .inr ⟨_, _, rfl, h.2⟩⟩
theorem invE_box {T N sc fb a X0} (h : chkE T N sc fb (.box a) X0 = true) : (isFr a && chkE T N sc fb a X0) = true := by
  unfold chkE at h
  exact h
theorem invP_e {T N sc fb a X0} (h : chkP T N sc fb (.e a) X0 = true) : chkE T N sc fb a X0 = true := by
  unfold chkP at h
  exact h
theorem invI_seq {T N sc fb a X0} (h : chkI T N sc fb (.seq a) X0 = true) : chkE T N sc fb a X0 = true := by
  unfold chkI at h
  exact h
def isTst : E → Bool
  | .nt _ => true | .and_ _ _ => true | .or_ _ _ => true | .cmp _ _ _ => true | .chn _ _ _ _ _ => true | _ => false
theorem tst_plain {ex : E} {e : Expr} (h : isTst ex = false) : tstOk ex e = plainT e := by
  unfold tstOk
  split <;> first | rfl | (cases h; done)
theorem plain_isTrue {e : Expr} (h : plainT e = true) (env : PySem.Env) (whole : Sem Value) : isTrue e env whole = (do let v ← whole; standAt e.pos; holding [v] (truthy v)) := by
  cases e <;> first | rfl | (cases h; done) | skip
  rename_i op x p
  cases op <;> first | rfl | (cases h; done)
def isBO : Expr → Bool
  | .BoolOp _ _ _ => true | _ => false
/-- what the look gives of one tree -/
structure Snd (G : Cr) (C : Orc) (X : Cx) (ex : E) (e : Expr) : Prop where
  pe : PE X e (tE G C ex)
  pf : isFr ex = true → PE X e (tF G C ex)
  pt : tstOk ex e = true → PT X e (tT G C ex)
  pw : tstOk ex e = true → isBO e = true → PW X e (tT G C ex)
section
variable {G : Cr} {C : Orc} {tb : Tb} {n : Nat} {X : Cx} {ex : E} {e : Expr}
theorem Snd.val (hi : isTst ex = false) (hf : isFr ex = false) (h : PE X e (tE G C ex)) : Snd G C X ex e :=
  ⟨h, fun z => absurd z (by rw [hf]; decide), fun z => tT.val h (plain_isTrue (by rw [← tst_plain hi]; exact z) X.env), fun z b => by
    rw [tst_plain hi] at z
    cases e <;> first | (cases b; done) | (cases z; done)⟩
theorem Snd.fr (hi : isTst ex = false) (h : PE X e (tF G C ex)) : Snd G C X ex e :=
  ⟨tE.f h, fun _ => h, fun z => tT.val (tE.f h) (plain_isTrue (by rw [← tst_plain hi]; exact z) X.env), fun z b => by
    rw [tst_plain hi] at z
    cases e <;> first | (cases b; done) | (cases z; done)⟩
theorem Snd.tst (hf : isFr ex = false) (hb : isBO e = false) (h : PE X e (tE G C ex)) (h2 : tstOk ex e = true → PT X e (tT G C ex)) : Snd G C X ex e :=
  ⟨h, fun z => absurd z (by rw [hf]; decide), h2, fun _ z => absurd z (by rw [hb]; decide)⟩
theorem Snd.bo (hf : isFr ex = false) (h : PE X e (tE G C ex)) (h2 : tstOk ex e = true → PW X e (tT G C ex)) : Snd G C X ex e :=
  ⟨h, fun z => absurd z (by rw [hf]; decide), fun z => (h2 z).pt, fun z _ => h2 z⟩
theorem plain_ix {b : Expr} (h : noSlice b = true) : PlainIx b := by
  cases b <;> first | (cases h; done) | exact fun _ _ => rfl
theorem notSet_fold {iter : Expr} (h : notSet iter = true) (env : PySem.Env) (x : Value) : foldedSetIterable iter env x = pure x := by
  cases iter <;> first | (cases h; done) | rfl
theorem chkQs_star {N sc fb} : ∀ {qs : Qs} {es : List Expr}, chkQs tb N sc fb qs es = true → es.all notStar = true
  | .nil, es, h0 => by obtain ⟨rfl, -⟩ := invQ_nil h0; rfl
  | .cons p ps, es, h0 => by
    obtain ⟨e, es, rfl, h⟩ := invQ_cons h0
    simp only [Bool.and_eq_true] at h
    rw [List.all_cons, h.1.1, chkQs_star h.2]; rfl
theorem chkEs_star {N sc fb} : ∀ {qs : Es} {es : List Expr}, chkEs tb N sc fb qs es = true → es.all notStar = true ∧ es.length = qs.len
  | .nil, es, h0 => by obtain ⟨rfl, -⟩ := invEs_nil h0; exact ⟨rfl, rfl⟩
  | .cons p ps, es, h0 => by
    obtain ⟨e, es, rfl, h⟩ := invEs_cons h0
    simp only [Bool.and_eq_true] at h
    have i := chkEs_star h.2
    exact ⟨by rw [List.all_cons, h.1.1, i.1]; rfl, congrArg Nat.succ i.2⟩
theorem chkKs_len {N sc fb} : ∀ {qs : Es} {es : List Keyword}, chkKs tb N sc fb qs es = true → es.length = qs.len
  | .nil, es, h0 => by obtain ⟨rfl, -⟩ := invKs_nil h0; rfl
  | .cons p ps, es, h0 => by
    obtain ⟨_, e, _, es, rfl, h⟩ := invKs_cons h0
    rw [Bool.and_eq_true] at h
    exact congrArg Nat.succ (chkKs_len h.2)
theorem chkPs_len {N sc fb} : ∀ {qs : Ps} {ks : List (Option Expr)} {vs : List Expr}, chkPs tb N sc fb qs ks vs = true → ks.all (·.isSome) = true ∧ ks.length = vs.length
  | .nil, _, _, h0 => by obtain ⟨rfl, rfl, -⟩ := invPs_nil h0; exact ⟨rfl, rfl⟩
  | .cons _ _ ps, _, _, h0 => by
    obtain ⟨a, ks, b, vs, rfl, rfl, h⟩ := invPs_cons h0
    rw [Bool.and_eq_true] at h
    have i := chkPs_len h.2
    exact ⟨i.1, congrArg Nat.succ i.2⟩
theorem ownP_map {N : List Str} {own : List Nat} : (ownP N own).map (·.2) = own := by
  unfold ownP
  rw [List.map_map]
  exact List.map_id _
mutual
theorem sndE (ex : E) (X : Cx) (g : Gd G C tb n X) (e : Expr) (h0 : chkE tb X.N X.env.scope X.fn ex e = true) : Snd G C X ex e := by
  match ex with
  | .k d =>
    rcases invE_k h0 with ⟨i, j, p, rfl, rfl⟩ | ⟨i, j, p, rfl, rfl⟩ | ⟨i, j, p, rfl, rfl⟩ | ⟨j, p, rfl, rfl⟩
    · exact .val rfl rfl sim_k_int
    · exact .val rfl rfl sim_k_bl
    · exact .val rfl rfl sim_k_str
    · exact .val rfl rfl sim_k_non
  | .v i =>
    obtain ⟨x, p, rfl, h⟩ := invE_v h0
    simp only [Bool.and_eq_true, decide_eq_true_eq] at h
    exact .val rfl rfl (sim_v h.1.1 (vis_of h.1.2) (okN_of h.2).1 (okN_of h.2).2)
  | .gl i =>
    obtain ⟨x, p, rfl, h⟩ := invE_gl h0
    simp only [Bool.and_eq_true, decide_eq_true_eq] at h
    obtain ⟨u, v, hm, hr, hv⟩ := g.gl i x h.1.1
    exact .val rfl rfl (sim_gl (glb_of h.1.2) hm hr hv (okN_of h.2).1)
  | .bin op a b =>
    obtain ⟨x, o, y, p, rfl, h⟩ := invE_bin h0
    simp only [Bool.and_eq_true, opEq, decide_eq_true_eq] at h
    obtain ⟨⟨rfl, h1⟩, h2⟩ := h
    exact .val rfl rfl (sim_bin g.K (sndE a X g x h1).pe (sndE b X g y h2).pe)
  | .cmp op a b =>
    obtain ⟨x, o, y, p, rfl, h⟩ := invE_cmp h0
    simp only [Bool.and_eq_true, decide_eq_true_eq, Bool.not_eq_true'] at h
    obtain ⟨⟨⟨rfl, h1⟩, h2⟩, h3⟩ := h
    have ia := sndP a X g x h1
    have ib := sndP b X g y h2
    exact .tst rfl rfl (sim_cmp g.K g.u64 ia ib h3) fun _ => test_cmp g.K g.u64 ia ib h3
  | .chn o1 o2 a b c =>
    obtain ⟨x, p1, p2, y, z, p, rfl, h⟩ := invE_chn h0
    simp only [Bool.and_eq_true, decide_eq_true_eq, Bool.not_eq_true'] at h
    obtain ⟨⟨⟨⟨⟨rfl, rfl⟩, h1⟩, h2⟩, h3⟩, h4⟩ := h
    have ia := (sndE a X g x h1).pe
    have ib := (sndE b X g y h2).pe
    have ic := (sndE c X g z h3).pe
    exact .tst rfl rfl (sim_chn g.K g.u64 ia ib ic h4) fun _ => test_chn g.K g.u64 ia ib ic h4
  | .neg a =>
    obtain ⟨x, p, rfl, h⟩ := invE_neg h0
    exact .val rfl rfl (sim_neg (sndE a X g x h).pe)
  | .nt a =>
    obtain ⟨x, p, rfl, h⟩ := invE_nt h0
    have i := sndE a X g x h
    exact .tst rfl rfl (sim_nt i.pe) fun z => test_nt (i.pt (by rw [tstOk] at z; exact z))
  | .and_ a b =>
    obtain ⟨e1, e2, rest, p, rfl, h1, h2⟩ := invE_and h0
    have i := sndE a X g e1 h1
    rcases h2 with ⟨rfl, h2⟩ | ⟨e3, es, rfl, h2⟩
    · have j := sndE b X g e2 h2
      refine .bo rfl (sim_and i.pe (pe_one j.pe)) fun z => ?_
      rw [tstOk, Bool.and_eq_true] at z
      exact test_and (i.pt z.1) (pw_and1 (j.pt z.2))
    · have j := sndE b X g _ h2
      refine .bo rfl (sim_and i.pe j.pe) fun z => ?_
      rw [tstOk, Bool.and_eq_true] at z
      exact test_and (i.pt z.1) (j.pw z.2 rfl)
  | .or_ a b =>
    obtain ⟨e1, e2, rest, p, rfl, h1, h2⟩ := invE_or h0
    have i := sndE a X g e1 h1
    rcases h2 with ⟨rfl, h2⟩ | ⟨e3, es, rfl, h2⟩
    · have j := sndE b X g e2 h2
      refine .bo rfl (sim_or i.pe (pe_one j.pe)) fun z => ?_
      rw [tstOk, Bool.and_eq_true] at z
      exact test_or (i.pt z.1) (pw_or1 (j.pt z.2))
    · have j := sndE b X g _ h2
      refine .bo rfl (sim_or i.pe j.pe) fun z => ?_
      rw [tstOk, Bool.and_eq_true] at z
      exact test_or (i.pt z.1) (j.pw z.2 rfl)
  | .ite c a b =>
    obtain ⟨t, x, y, p, rfl, h⟩ := invE_ite h0
    simp only [Bool.and_eq_true] at h
    exact .val rfl rfl (sim_ite ((sndE c X g t h.1.1.1).pt h.1.1.2) (sndE a X g x h.1.2).pe (sndE b X g y h.2).pe)
  | .sub a i =>
    obtain ⟨x, y, p, rfl, h⟩ := invE_sub h0
    simp only [Bool.and_eq_true] at h
    exact .val rfl rfl (sim_sub g.K g.w g.u1 (sndP a X g x h.1.1) (sndE i X g y h.2).pe (plain_ix h.1.2))
  | .cut a lo hi =>
    obtain ⟨x, l, hh, p1, p2, rfl, h⟩ := invE_cut h0
    simp only [Bool.and_eq_true] at h
    exact .fr rfl (sim_cut g.K (sndP a X g x h.1.1) (sndO lo X g l h.1.2) (sndO hi X g hh h.2))
  | .rev a =>
    obtain ⟨x, k, p1, p2, p3, p4, rfl, h⟩ := invE_rev h0
    exact .fr rfl (sim_rev g.K (sndP a X g x h))
  | .tup es =>
    obtain ⟨xs, k, p, rfl, h⟩ := invE_tup h0
    exact .val rfl rfl (sim_tup (sndEs es X g xs h))
  | .lst es =>
    obtain ⟨xs, p, rfl, h⟩ := invE_lst h0
    exact .fr rfl (sim_lst (sndEs es X g xs h))
  | .dsp ps =>
    obtain ⟨ks, vs, p, rfl, h⟩ := invE_dsp h0
    simp only [Bool.and_eq_true, Bool.not_eq_true', decide_eq_true_eq] at h
    have l := chkPs_len h.1.1
    exact .fr rfl (sim_dsp (sndPs ps X g ks vs h.1.1) l.1 l.2 (fun z => by rw [z] at h; cases h.1.2) h.2)
  | .bi f qs =>
    obtain ⟨x, p1, e, es, p, rfl, h⟩ := invE_bi h0
    simp only [Bool.and_eq_true, decide_eq_true_eq] at h
    obtain ⟨⟨rfl, h1⟩, h2⟩ := h
    have hs := chkQs_star h2
    rw [List.all_cons, Bool.and_eq_true] at hs
    exact .val rfl rfl (sim_bi g.K g.calm g.gds g.u66 (glb_of h1) (g.bi f) (sndQs qs X g _ h2) (star_cons hs.1) (star_any hs.2))
  | .call f es ks perm =>
    obtain ⟨x, p1, args, kws, p, rfl, h⟩ := invE_call h0
    simp only [Bool.and_eq_true, decide_eq_true_eq] at h
    obtain ⟨⟨⟨⟨⟨h1, h2⟩, h3⟩, h4⟩, h5⟩, h6⟩ := h
    split at h6
    · rename_i kn hkn
      obtain ⟨x', fa, fd, ps, e1, hm, hk, hb, F⟩ := g.cs _ (csB_mem h6)
      have e2 := e1.symm.trans h1
      cases e2
      have hst := chkEs_star h4
      have lk : kn.length = ks.len := by
        have := congrArg List.length (knOf_map hkn)
        rw [List.length_map, List.length_map] at this
        rw [← this, chkKs_len h5]
      exact .val rfl rfl (sim_call g.K F g.room g.gds hb (glb_of h2) hm hk (sndEs es X g args h4) (sndKs ks X g kws h5) hst.1 (knOf_map hkn) (okN_of h3).1 hst.2 lk)
    · cases h6
  | .lc own t it c elt =>
    obtain ⟨x, tg, iter, ifs, scope, p, rfl, h⟩ := invE_lc h0
    simp only [Bool.and_eq_true, List.all_eq_true] at h
    obtain ⟨⟨⟨⟨⟨⟨h1, h2⟩, h3⟩, h4⟩, h5⟩, h6⟩, h7⟩ := h
    refine .fr rfl ?_
    have q := pe_lc (pos := p) g.calm g.nd (sndI it X g tg iter h1) (blkOk_by h3) (fun s H Cc cl fp => sndT (X := X.blk s H scope (compEnvC scope cl Cc X.env) fp) g.calm g.K g.nd t tg h4)
      (fun s H Cc cl fp => sndC c (X.blk s H scope (compEnvC scope cl Cc X.env) fp) (g.blk _ _ _ _ _) ifs h6) (fun s H Cc cl fp => (sndE elt (X.blk s H scope (compEnvC scope cl Cc X.env) fp) (g.blk _ _ _ _ _) x h7).pe) (notSet_fold h2 X.env)
    have om := ownP_map (N := X.N) (own := own)
    refine impE q fun σ H Q w => lc_reads (fun i hi => ?_) ?_
    · rw [om]
      exact List.contains_iff_mem.mp (h5 i hi)
    · rw [om]; exact w
  | .box a =>
    have h := invE_box h0
    rw [Bool.and_eq_true] at h
    exact .val rfl rfl (sim_box ((sndE a X g e h.2).pf h.1))
  | .pop a =>
    obtain ⟨x, m, ap, p, rfl, h⟩ := invE_pop h0
    simp only [Bool.and_eq_true, decide_eq_true_eq] at h
    obtain ⟨⟨⟨rfl, h1⟩, h2⟩, h3⟩ := h
    exact .val rfl rfl (sim_pop (sndE a X g x h1).pe h2 h3)
  | .app a b =>
    obtain ⟨x, m, ap, y, p, rfl, h⟩ := invE_app h0
    simp only [Bool.and_eq_true, decide_eq_true_eq] at h
    obtain ⟨⟨⟨⟨⟨rfl, h1⟩, h2⟩, h3⟩, h4⟩, h5⟩ := h
    exact .val rfl rfl (sim_app (sndE a X g x h1).pe (sndE b X g y h2).pe h3 h4 (star_cons h5))
theorem sndP (p : P) (X : Cx) (g : Gd G C tb n X) (e : Expr) (h0 : chkP tb X.N X.env.scope X.fn p e = true) : PE X e (tP G C p) := by
  match p with
  | .e ex => exact tP.of (sndE ex X g e (invP_e h0)).pe
  | .pk i =>
    obtain ⟨x, p, rfl, h⟩ := invP_pk h0
    simp only [Bool.and_eq_true, decide_eq_true_eq] at h
    exact sim_pk h.1.1 (vis_of h.1.2) (okN_of h.2).1 (okN_of h.2).2
theorem sndQs (qs : Qs) (X : Cx) (g : Gd G C tb n X) (es : List Expr) (h0 : chkQs tb X.N X.env.scope X.fn qs es = true) : PA X es (tQs G C qs) := by
  match qs with
  | .nil => obtain ⟨rfl, -⟩ := invQ_nil h0; exact simQ_nil
  | .cons p ps =>
    obtain ⟨e, es, rfl, h⟩ := invQ_cons h0
    simp only [Bool.and_eq_true] at h
    exact simQ_cons (sndP p X g e h.1.2) (sndQs ps X g es h.2) (star_cons h.1.1)
theorem sndO (o : Oe) (X : Cx) (g : Gd G C tb n X) (e : Option Expr) (h0 : chkO tb X.N X.env.scope X.fn o e = true) : PO X e (tO G C o) := by
  match o with
  | .none => obtain ⟨rfl, -⟩ := invO_none h0; exact sim_o_none
  | .some ex => obtain ⟨e, rfl, h⟩ := invO_some h0; exact sim_o_some (sndE ex X g e h).pe
theorem sndC (o : Oe) (X : Cx) (g : Gd G C tb n X) (es : List Expr) (h0 : chkC tb X.N X.env.scope X.fn o es = true) : PTs X es (tC G C o) := by
  match o with
  | .none => obtain ⟨rfl, -⟩ := invC_none h0; exact simC_none
  | .some ex =>
    obtain ⟨e, rfl, h⟩ := invC_some h0
    rw [Bool.and_eq_true] at h
    exact simC_some ((sndE ex X g e h.1).pt h.2)
theorem sndEs (qs : Es) (X : Cx) (g : Gd G C tb n X) (es : List Expr) (h0 : chkEs tb X.N X.env.scope X.fn qs es = true) : PA X es (tEs G C qs) := by
  match qs with
  | .nil => obtain ⟨rfl, -⟩ := invEs_nil h0; exact sim_nil
  | .cons p ps =>
    obtain ⟨e, es, rfl, h⟩ := invEs_cons h0
    simp only [Bool.and_eq_true] at h
    exact sim_cons (sndE p X g e h.1.2).pe (sndEs ps X g es h.2) (star_cons h.1.1)
theorem sndKs (qs : Es) (X : Cx) (g : Gd G C tb n X) (es : List Keyword) (h0 : chkKs tb X.N X.env.scope X.fn qs es = true) : PK X es (tEs G C qs) := by
  match qs with
  | .nil => obtain ⟨rfl, -⟩ := invKs_nil h0; exact simK_nil
  | .cons p ps =>
    obtain ⟨_, e, _, es, rfl, h⟩ := invKs_cons h0
    rw [Bool.and_eq_true] at h
    exact simK_cons (sndE p X g e h.1).pe (sndKs ps X g es h.2)
theorem sndPs (qs : Ps) (X : Cx) (g : Gd G C tb n X) {pos : Pos} (ks : List (Option Expr)) (vs : List Expr) (h0 : chkPs tb X.N X.env.scope X.fn qs ks vs = true) : PPs X pos ks vs (psTrs G C qs) := by
  match qs with
  | .nil => obtain ⟨rfl, rfl, -⟩ := invPs_nil h0; exact pps_nil
  | .cons k v ps =>
    obtain ⟨a, ks, b, vs, rfl, rfl, h⟩ := invPs_cons h0
    simp only [Bool.and_eq_true] at h
    exact pps_cons (sndE k X g a h.1.1).pe (sndE v X g b h.1.2).pe (sndPs ps X g ks vs h.2)
theorem sndI (it : It) (X : Cx) (g : Gd G C tb n X) (tg e : Expr) (h0 : chkI tb X.N X.env.scope X.fn it e = true) : PI X tg e (tI G C it) := by
  match it with
  | .seq ex => exact pi_seq (sndE ex X g e (invI_seq h0)).pe g.K
  | .rng1 a =>
    obtain ⟨x, p1, y, p, rfl, h⟩ := invI_rng1 h0
    simp only [Bool.and_eq_true, decide_eq_true_eq] at h
    obtain ⟨⟨⟨rfl, h1⟩, h2⟩, h3⟩ := h
    exact sim_rng1 (glb_of h1) g.rng (sndE a X g y h2).pe (star_cons h3)
  | .rng2 a b =>
    obtain ⟨x, p1, y, z, p, rfl, h⟩ := invI_rng2 h0
    simp only [Bool.and_eq_true, decide_eq_true_eq] at h
    obtain ⟨⟨⟨⟨⟨rfl, h1⟩, h2⟩, h3⟩, h4⟩, h5⟩ := h
    exact sim_rng2 (glb_of h1) g.rng (sndE a X g y h2).pe (sndE b X g z h3).pe ((star_cons h4).trans (congrArg _ (star_cons h5))) (star_cons h5)
end
end
end Wf
set_option Elab.async false
set_option linter.all false
namespace Wf
open PySem L2

/-! ### statements: the look -/
def noComp : Expr → Bool
  | .ListComp _ _ _ _ => false | .SetComp _ _ _ _ => false | .DictComp _ _ _ _ _ => false | _ => true
def notTup : Expr → Bool
  | .Tuple _ _ _ => false | _ => true
def isFun (sc : Scope) : Bool := match sc.kind with | .function => true | _ => false
/-- the comprehension is stored by the name itself -/
def swB (sc : Scope) (y : Str) (py : Pos) : Expr → Bool
  | .ListComp _ _ scope pos => isFun sc && lclB sc y && (py.line == pos.line) && !(scope.names.any fun (n, k) => n == y && (k == .local || k == .cell))
  | _ => false
def par2 (sc : Scope) (x y : Str) (px py : Pos) (a b : Expr) : Bool :=
  isFun sc && lclB sc x && lclB sc y && (py.line == px.line) && !(x == y) && notStar a && notStar b && !(foldedForSure 8 a && foldedForSure 8 b) && !(constantsAlone 8 a && constantsAlone 8 b)
def par3 (sc : Scope) (x y z : Str) (px py pz : Pos) (a b c : Expr) : Bool :=
  isFun sc && lclB sc x && lclB sc y && lclB sc z && (py.line == px.line) && (pz.line == px.line) && !(x == y) && !(x == z) && !(y == z) && notStar a && notStar b && notStar c && !(foldedForSure 8 a && foldedForSure 8 b && foldedForSure 8 c) && !(constantsAlone 8 a && constantsAlone 8 b && constantsAlone 8 c)
theorem isFun_of {sc : Scope} (h : isFun sc = true) : sc.kind = .function := by
  unfold isFun at h
  split at h
  · assumption
  · cases h
theorem noComp_sw {e : Expr} (h : noComp e = true) (t : Option Expr) (l : Nat) (env : PySem.Env) : swapsWith e t l env = pure false := by
  cases e <;> first | rfl | (cases h; done)
theorem notTup_sw {e tg : Expr} (h : notTup e = true) (env : PySem.Env) : swappedStores [tg] e env = pure none := by
  unfold swappedStores
  split
  · rename_i h2
    split at h2 <;> first | (cases h; done) | (cases h2; done)
  · rfl
theorem beq_ff {x y : Str} (h : (x == y) = false) : (y == x) = false := by
  rw [beq_eq_false_iff_ne] at *
  exact fun z => h z.symm
theorem loc_loc : (some NameKind.local == some NameKind.local) = true := by decide
theorem fn_fn : (ScopeKind.function != ScopeKind.function) = false := by decide
theorem ln_ln (n : Nat) : (n == n) = true := beq_self_eq_true n
theorem par2_sw {env : PySem.Env} {x y : Str} {px py pt pt2 : Pos} {a b : Expr} {kt k2 : Nat} (h : par2 env.scope x y px py a b = true) : swappedStores [.Tuple [.Name x px, .Name y py] kt pt] (.Tuple [a, b] k2 pt2) env = pure (some [x, y]) := by
  unfold par2 at h
  simp only [Bool.and_eq_true, Bool.not_eq_true'] at h
  obtain ⟨⟨⟨⟨⟨⟨⟨⟨h1, h2⟩, h3⟩, h4⟩, h5⟩, h6⟩, h7⟩, h8⟩, h9⟩ := h
  have k1 : env.kindOf x = some .local := lcl_of h2
  have k2 : env.kindOf y = some .local := lcl_of h3
  have hb : env.blockKind = .function := by unfold Env.blockKind; rw [isFun_of h1]; rfl
  have h5' := beq_ff h5
  unfold swappedStores
  simp only [List.any_cons, List.any_nil, hb, List.length_cons, List.length_nil, List.filterMap_cons, List.filterMap_nil, k1, k2, List.head?_cons, Option.map_some, Option.getD_some, Expr.pos, h4, ln_ln, loc_loc, fn_fn, List.all_cons, List.all_nil, Bool.and_true, h8, h9, if_true, List.eraseDups_cons, List.filter_cons, h5', List.filter_nil, List.eraseDups_nil]
  simp [List.eraseDups_cons, List.filter_cons, h5']
  intro h
  rcases h with h | h
  · cases a <;> first | (cases h6; done) | (cases h; done)
  · cases b <;> first | (cases h7; done) | (cases h; done)
theorem par3_sw {env : PySem.Env} {x y z : Str} {px py pz pt pt2 : Pos} {a b c : Expr} {kt k2 : Nat} (h : par3 env.scope x y z px py pz a b c = true) : swappedStores [.Tuple [.Name x px, .Name y py, .Name z pz] kt pt] (.Tuple [a, b, c] k2 pt2) env = pure (some [x, y, z]) := by
  unfold par3 at h
  simp only [Bool.and_eq_true, Bool.not_eq_true'] at h
  obtain ⟨⟨⟨⟨⟨⟨⟨⟨⟨⟨⟨⟨⟨h1, h2⟩, h3⟩, g3⟩, h4⟩, g4⟩, h5⟩, g5⟩, f5⟩, h6⟩, h7⟩, g7⟩, h8⟩, h9⟩ := h
  have k1 : env.kindOf x = some .local := lcl_of h2
  have k2 : env.kindOf y = some .local := lcl_of h3
  have k3 : env.kindOf z = some .local := lcl_of g3
  have hb : env.blockKind = .function := by unfold Env.blockKind; rw [isFun_of h1]; rfl
  have h5' := beq_ff h5
  have g5' := beq_ff g5
  have f5' := beq_ff f5
  rw [Bool.and_assoc] at h8 h9
  unfold swappedStores
  simp only [List.any_cons, List.any_nil, hb, List.length_cons, List.length_nil, List.filterMap_cons, List.filterMap_nil, k1, k2, k3, List.head?_cons, Option.map_some, Option.getD_some, Expr.pos, h4, g4, ln_ln, loc_loc, fn_fn, List.all_cons, List.all_nil, Bool.and_true, h8, h9, if_true, List.eraseDups_cons, List.filter_cons, h5', g5', f5', List.filter_nil, List.eraseDups_nil]
  simp [List.eraseDups_cons, List.filter_cons, h5', g5', f5']
  intro h
  rcases h with h | h | h
  · cases a <;> first | (cases h6; done) | (cases h; done)
  · cases b <;> first | (cases h7; done) | (cases h; done)
  · cases c <;> first | (cases g7; done) | (cases h; done)

/-- no store by the comprehension itself -/
def nsw (sc : Scope) (tg e : Expr) : Bool := noComp e || (match tg with | .Name y _ => !(lclB sc y) | _ => true)
def nsp (tg e : Expr) : Bool := notTup e || (match tg with | .Tuple ts _ _ => !(ts.length == 2 || ts.length == 3) | .List ts _ => !(ts.length == 2 || ts.length == 3) | _ => true)
theorem nsw_sw {tg e : Expr} {env : PySem.Env} {l : Nat} (h : nsw env.scope tg e = true) : swapsWith e (some tg) l env = pure false := by
  unfold nsw at h
  rw [Bool.or_eq_true] at h
  rcases h with h | h
  · exact noComp_sw h _ _ _
  · split at h
    · rename_i y p
      have hk : (env.kindOf y == some .local) = false := by
        show (env.scope.names.lookup y == some .local) = false
        rw [Bool.not_eq_true'] at h
        unfold lclB at h
        split at h
        · cases h
        · rename_i hn
          exact beq_eq_false_iff_ne.mpr fun z => hn z
      cases e <;> first | rfl | (unfold swapsWith; simp only [hk, Bool.and_false, Bool.false_and])
    · rename_i hn
      cases e <;> first | rfl | (cases tg <;> first | rfl | exact absurd rfl (hn _ _))
theorem nsp_sw {tg e : Expr} {env : PySem.Env} (h : nsp tg e = true) : swappedStores [tg] e env = pure none := by
  unfold nsp at h
  rw [Bool.or_eq_true] at h
  rcases h with h | h
  · exact notTup_sw h env
  · unfold swappedStores
    split
    · rename_i ts vs h2
      split at h2
      · rename_i h3 
        cases h2
        cases h3
        simp only at h
        simp only [h, Bool.true_or, if_true]
      · rename_i h3 
        cases h2
        cases h3
        simp only at h
        simp only [h, Bool.true_or, if_true]
      · cases h2
    · rfl
def isLc : E → Bool
  | .lc _ _ _ _ _ => true | _ => false
def nmE (N : List Str) (sc : Scope) (fb : Str → Bool) (i : Nat) (y : Str) : Bool := decide (N[i]? = some y) && locB sc y && (fb y || lclB sc y)
def chkA (tb : Tb) (N : List Str) (sc : Scope) (fb : Str → Bool) : T → E → Expr → Expr → Bool
  | .tp (.cons (.nm i) (.cons (.nm j) .nil)), .tup exs, .Tuple [.Name x px, .Name y py] _ _, .Tuple [a, b] _ _ => par2 sc x y px py a b && chkEs tb N sc fb exs [a, b] && decide (N[i]? = some x) && decide (N[j]? = some y) && !(i == j)
  | .tp (.cons (.nm i) (.cons (.nm j) (.cons (.nm l) .nil))), .tup exs, .Tuple [.Name x px, .Name y py, .Name z pz] _ _, .Tuple [a, b, c] _ _ =>
    par3 sc x y z px py pz a b c && chkEs tb N sc fb exs [a, b, c] && decide (N[i]? = some x) && decide (N[j]? = some y) && decide (N[l]? = some z) && !(i == j) && !(i == l) && !(j == l)
  | .nm i, ex, .Name y py, e => swB sc y py e && isLc ex && chkE tb N sc fb ex e && decide (N[i]? = some y)
  | _, _, _, _ => false
mutual
def chkS (tb : Tb) (N : List Str) (sc : Scope) (fb : Str → Bool) : Sx → Stmt → Bool
  | .asg t ex, .Assign [tg] e _ => (chkT N sc fb t tg && notStar tg && chkE tb N sc fb ex e && nsw sc tg e && nsp tg e) || chkA tb N sc fb t ex tg e
  | .own i ex, .Assign [.Name y py] e _ => isFr ex && chkE tb N sc fb ex e && nmE N sc fb i y && (nsw sc (.Name y py) e || (swB sc y py e && isLc ex))
  | .put o i ex, .Assign [.Subscript eo ei _] e _ => chkE tb N sc fb ex e && chkE tb N sc fb o eo && chkE tb N sc fb i ei && noSlice ei
  | .pst i k ex, .Assign [.Subscript (.Name x _) ei _] e _ => decide (N[i]? = some x) && visB sc x && okN x && chkE tb N sc fb ex e && chkE tb N sc fb k ei && noSlice ei
  | .ex ex, .Expr e _ => chkE tb N sc fb ex e && noComp e
  | .ret ex, .Return (some e) _ => chkE tb N sc fb ex e
  | .iff c a b, .If e xs ys _ => chkE tb N sc fb c e && tstOk c e && chkSs tb N sc fb a xs && chkSs tb N sc fb b ys
  | .fr t it b, .For tg iter body [] _ => chkI tb N sc fb it iter && notSet iter && chkT N sc fb t tg && chkSs tb N sc fb b body
  | .apS i ex, .Expr (.Call (.Attribute (.Name x _) m apos) [b] [] cpos) _ => decide (N[i]? = some x) && visB sc x && okN x && decide (m = "append") && (apos.endLine == cpos.line) && notStar b && chkE tb N sc fb ex b
  | _, _ => false
def chkSs (tb : Tb) (N : List Str) (sc : Scope) (fb : Str → Bool) : Ss → List Stmt → Bool
  | .cons (.frz _) ss, sts => chkSs tb N sc fb ss sts
  | .cons s ss, st :: sts => chkS tb N sc fb s st && chkSs tb N sc fb ss sts
  | .nil, [] => true
  | _, _ => false
end
end Wf
set_option Elab.async false
set_option linter.all false
namespace Wf
open PySem L2
section
variable {G : Cr} {C : Orc} {tb : Tb} {n : Nat} {X : Cx}
theorem invS_asg {T N sc fb t ex X0} (h : chkS T N sc fb (.asg t ex) X0 = true) : ∃ tg e p, X0 = .Assign [tg] e p ∧ ((chkT N sc fb t tg && notStar tg && chkE T N sc fb ex e && nsw sc tg e && nsp tg e) || chkA T N sc fb t ex tg e) = true := by
  unfold chkS at h; split at h
  all_goals first | (cases h; done) | skip
  all_goals rename_i h1
  all_goals first | (cases h1; done) | skip
  all_goals cases h1
  exact ⟨_, _, _, rfl, h⟩
theorem invS_own {T N sc fb i ex X0} (h : chkS T N sc fb (.own i ex) X0 = true) : ∃ y p1 e p, X0 = .Assign [.Name y p1] e p ∧ (isFr ex && chkE T N sc fb ex e && nmE N sc fb i y && (nsw sc (.Name y p1) e || (swB sc y p1 e && isLc ex))) = true := by
  unfold chkS at h; split at h
  all_goals first | (cases h; done) | skip
  all_goals rename_i h1
  all_goals first | (cases h1; done) | skip
  all_goals cases h1
  exact ⟨_, _, _, _, rfl, h⟩
theorem invS_put {T N sc fb o i ex X0} (h : chkS T N sc fb (.put o i ex) X0 = true) : ∃ eo ei p1 e p, X0 = .Assign [.Subscript eo ei p1] e p ∧ (chkE T N sc fb ex e && chkE T N sc fb o eo && chkE T N sc fb i ei && noSlice ei) = true := by
  unfold chkS at h; split at h
  all_goals first | (cases h; done) | skip
  all_goals rename_i h1
  all_goals first | (cases h1; done) | skip
  all_goals cases h1
  exact ⟨_, _, _, _, _, rfl, h⟩
theorem invS_pst {T N sc fb k i ex X0} (h : chkS T N sc fb (.pst i k ex) X0 = true) : ∃ x p0 ei p1 e p, X0 = .Assign [.Subscript (.Name x p0) ei p1] e p ∧ (decide (N[i]? = some x) && visB sc x && okN x && chkE T N sc fb ex e && chkE T N sc fb k ei && noSlice ei) = true := by
  unfold chkS at h; split at h
  all_goals first | (cases h; done) | skip
  all_goals rename_i h1
  all_goals first | (cases h1; done) | skip
  all_goals cases h1
  exact ⟨_, _, _, _, _, _, rfl, h⟩
theorem invS_ex {T N sc fb ex X0} (h : chkS T N sc fb (.ex ex) X0 = true) : ∃ e p, X0 = .Expr e p ∧ (chkE T N sc fb ex e && noComp e) = true := by
  unfold chkS at h; split at h
  all_goals first | (cases h; done) | skip
  all_goals rename_i h1
  all_goals first | (cases h1; done) | skip
  all_goals cases h1
  exact ⟨_, _, rfl, h⟩
theorem invS_ret {T N sc fb ex X0} (h : chkS T N sc fb (.ret ex) X0 = true) : ∃ e p, X0 = .Return (some e) p ∧ chkE T N sc fb ex e = true := by
  unfold chkS at h; split at h
  all_goals first | (cases h; done) | skip
  all_goals rename_i h1
  all_goals first | (cases h1; done) | skip
  all_goals cases h1
  exact ⟨_, _, rfl, h⟩
theorem invS_iff {T N sc fb c a b X0} (h : chkS T N sc fb (.iff c a b) X0 = true) : ∃ e xs ys p, X0 = .If e xs ys p ∧ (chkE T N sc fb c e && tstOk c e && chkSs T N sc fb a xs && chkSs T N sc fb b ys) = true := by
  unfold chkS at h; split at h
  all_goals first | (cases h; done) | skip
  all_goals rename_i h1
  all_goals first | (cases h1; done) | skip
  all_goals cases h1
  exact ⟨_, _, _, _, rfl, h⟩
theorem invS_fr {T N sc fb t it b X0} (h : chkS T N sc fb (.fr t it b) X0 = true) : ∃ tg iter body p, X0 = .For tg iter body [] p ∧ (chkI T N sc fb it iter && notSet iter && chkT N sc fb t tg && chkSs T N sc fb b body) = true := by
  unfold chkS at h; split at h
  all_goals first | (cases h; done) | skip
  all_goals rename_i h1
  all_goals first | (cases h1; done) | skip
  all_goals cases h1
  exact ⟨_, _, _, _, rfl, h⟩
theorem invS_apS {T N sc fb i ex X0} (h : chkS T N sc fb (.apS i ex) X0 = true) : ∃ x p0 m ap b cp p, X0 = .Expr (.Call (.Attribute (.Name x p0) m ap) [b] [] cp) p ∧ (decide (N[i]? = some x) && visB sc x && okN x && decide (m = "append") && (ap.endLine == cp.line) && notStar b && chkE T N sc fb ex b) = true := by
  unfold chkS at h; split at h
  all_goals first | (cases h; done) | skip
  all_goals rename_i h1
  all_goals first | (cases h1; done) | skip
  all_goals cases h1
  exact ⟨_, _, _, _, _, _, _, rfl, h⟩
theorem invS_frz {T N sc fb i X0} (h : chkS T N sc fb (.frz i) X0 = true) : False := by
  unfold chkS at h
  cases h
theorem nsw_sub {o i e : Expr} {p : Pos} {env : PySem.Env} {l : Nat} : swapsWithSole [.Subscript o i p] e l env = pure false := nsw_sw (tg := .Subscript o i p) (env := env) (l := l) (by unfold nsw; exact Bool.or_true _)
theorem each_one {tg : Expr} {env : PySem.Env} (h : notStar tg = true) : (assignEach [tg] env).map (·.2) = [assign tg env] := each_cons h
/-- y = [… for …] by the name itself -/
theorem sndLc (g : Gd G C tb n X) {i : Nat} {y : Str} {py p : Pos} {e : Expr} {ex : E} (hs : swB X.env.scope y py e = true) (hl : isLc ex = true) (h0 : chkE tb X.N X.env.scope X.fn ex e = true) (hy : X.N[i]? = some y) : PS X (.Assign [.Name y py] e p) (tAsg (tF G C ex) (gName i)) := by
  cases ex <;> first | (cases hl; done) | skip
  rename_i own t it c elt
  obtain ⟨x, tg, iter, ifs, scope, p2, rfl, h⟩ := invE_lc h0
  simp only [Bool.and_eq_true, List.all_eq_true] at h
  obtain ⟨⟨⟨⟨⟨⟨h1, h2⟩, h3⟩, h4⟩, h5⟩, h6⟩, h7⟩ := h
  unfold swB at hs
  simp only [Bool.and_eq_true, Bool.not_eq_true'] at hs
  have q := ps_setLc (pos := p2) (spos := p) (py := py) g.calm g.nd hy (lcl_of hs.1.1.2) (sw_true (isFun_of hs.1.1.1) (lcl_of hs.1.1.2) hs.1.2 hs.2) (sndI it X g tg iter h1) (blkOk_by h3) (fun s H Cc cl fp => sndT (X := X.blk s H scope (compEnvC scope cl Cc X.env) fp) g.calm g.K g.nd t tg h4)
    (fun s H Cc cl fp => sndC c (X.blk s H scope (compEnvC scope cl Cc X.env) fp) (g.blk _ _ _ _ _) ifs h6) (fun s H Cc cl fp => (sndE elt (X.blk s H scope (compEnvC scope cl Cc X.env) fp) (g.blk _ _ _ _ _) x h7).pe) (notSet_fold h2 X.env)
  have om := ownP_map (N := X.N) (own := own)
  refine impS q fun De σ H w => lc_reads (fun i hi => ?_) ?_
  · rw [om]
    exact List.contains_iff_mem.mp (h5 i hi)
  · rw [om]; exact w
theorem sndA (g : Gd G C tb n X) {t : T} {ex : E} {tg e : Expr} {p : Pos} (h : chkA tb X.N X.env.scope X.fn t ex tg e = true) : PS X (.Assign [tg] e p) (tS G C (.asg t ex)) := by
  unfold chkA at h
  split at h
  · simp only [Bool.and_eq_true, decide_eq_true_eq, Bool.not_eq_true', beq_eq_false_iff_ne] at h
    obtain ⟨⟨⟨⟨h1, h2⟩, h3⟩, h4⟩, h5⟩ := h
    have hp := h1
    unfold par2 at hp
    simp only [Bool.and_eq_true] at hp
    exact sim_par g.calm g.nd h3 h4 h5 (lcl_of hp.1.1.1.1.1.1.1.2) (lcl_of hp.1.1.1.1.1.1.2) (sndEs _ X g _ h2) (par2_sw h1)
  · simp only [Bool.and_eq_true, decide_eq_true_eq, Bool.not_eq_true', beq_eq_false_iff_ne] at h
    obtain ⟨⟨⟨⟨⟨⟨⟨h1, h2⟩, h3⟩, h4⟩, h5⟩, h6⟩, h7⟩, h8⟩ := h
    have hp := h1
    unfold par3 at hp
    simp only [Bool.and_eq_true] at hp
    exact sim_par3 g.calm g.nd h3 h4 h5 h6 h7 h8 (lcl_of hp.1.1.1.1.1.1.1.1.1.1.1.1.2) (lcl_of hp.1.1.1.1.1.1.1.1.1.1.1.2) (lcl_of hp.1.1.1.1.1.1.1.1.1.1.2) (sndEs _ X g _ h2) (par3_sw h1)
  · simp only [Bool.and_eq_true, decide_eq_true_eq] at h
    exact asg_ofF (sndLc g h.1.1.1 h.1.1.2 h.1.2 h.2)
  · cases h
theorem lt_of_get {α : Type} {l : List α} {i : Nat} {x : α} (h : l[i]? = some x) : i < l.length := (List.getElem?_eq_some_iff.mp h).1
mutual
theorem sndS (sx : Sx) (X : Cx) (g : Gd G C tb n X) (st : Stmt) (h0 : chkS tb X.N X.env.scope X.fn sx st = true) : PS X st (tS G C sx) := by
  match sx with
  | .asg t ex =>
    obtain ⟨tg, e, p, rfl, h⟩ := invS_asg h0
    rw [Bool.or_eq_true] at h
    rcases h with h | h
    · simp only [Bool.and_eq_true] at h
      obtain ⟨⟨⟨⟨h1, h2⟩, h3⟩, h4⟩, h5⟩ := h
      exact sim_asg (sndE ex X g e h3).pe (sndT g.calm g.K g.nd t tg h1) (nsw_sw h4) (nsp_sw h5) (each_one h2)
    · exact sndA g h
  | .own i ex =>
    obtain ⟨y, py, e, p, rfl, h⟩ := invS_own h0
    simp only [Bool.and_eq_true, Bool.or_eq_true, nmE, decide_eq_true_eq] at h
    obtain ⟨⟨⟨h1, h2⟩, ⟨⟨h3, h4⟩, h5⟩⟩, h6⟩ := h
    refine own_of (lt_of_get h3) ?_
    rcases h6 with h6 | h6
    · exact set_F g.nd h3 (loc_of h4) ((sndE ex X g e h2).pf h1) (nsw_sw h6) (h5.imp id lcl_of)
    · exact sndLc g h6.1 h6.2 h2 h3
  | .put o i ex =>
    obtain ⟨eo, ei, p1, e, p, rfl, h⟩ := invS_put h0
    simp only [Bool.and_eq_true] at h
    exact sim_put g.u1 (sndE ex X g e h.1.1.1).pe (sndE o X g eo h.1.1.2).pe (sndE i X g ei h.1.2).pe h.2 nsw_sub
  | .pst i k ex =>
    obtain ⟨x, p0, ei, p1, e, p, rfl, h⟩ := invS_pst h0
    simp only [Bool.and_eq_true, decide_eq_true_eq] at h
    obtain ⟨⟨⟨⟨⟨h1, h2⟩, h3⟩, h4⟩, h5⟩, h6⟩ := h
    exact sim_pst g.u1 h1 (vis_of h2) (okN_of h3).1 (okN_of h3).2 (sndE ex X g e h4).pe (sndE k X g ei h5).pe h6 nsw_sub
  | .ex ex =>
    obtain ⟨e, p, rfl, h⟩ := invS_ex h0
    rw [Bool.and_eq_true] at h
    exact sim_ex (sndE ex X g e h.1).pe (noComp_sw h.2 _ _ _)
  | .ret ex =>
    obtain ⟨e, p, rfl, h⟩ := invS_ret h0
    exact sim_ret (sndE ex X g e h).pe
  | .iff c a b =>
    obtain ⟨e, xs, ys, p, rfl, h⟩ := invS_iff h0
    simp only [Bool.and_eq_true] at h
    exact sim_iff ((sndE c X g e h.1.1.1).pt h.1.1.2) (sndSs a X g xs h.1.2) (sndSs b X g ys h.2)
  | .fr t it b =>
    obtain ⟨tg, iter, body, p, rfl, h⟩ := invS_fr h0
    simp only [Bool.and_eq_true] at h
    exact sim_fr g.calm g.xe (sndI it X g tg iter h.1.1.1) (sndT g.calm g.K g.nd t tg h.1.2) (sndSs b X g body h.2) (notSet_fold h.1.1.2 X.env)
  | .apS i ex =>
    obtain ⟨x, p0, m, ap, b, cp, p, rfl, h⟩ := invS_apS h0
    simp only [Bool.and_eq_true, decide_eq_true_eq] at h
    obtain ⟨⟨⟨⟨⟨⟨h1, h2⟩, h3⟩, rfl⟩, h4⟩, h5⟩, h6⟩ := h
    exact sim_apS h1 (vis_of h2) (okN_of h3).1 (okN_of h3).2 (sndE ex X g b h6).pe h4 h5
  | .frz i => exact (invS_frz h0).elim
theorem sndSs (ss : Ss) (X : Cx) (g : Gd G C tb n X) (sts : List Stmt) (h0 : chkSs tb X.N X.env.scope X.fn ss sts = true) : PSs X sts (tSs G C ss) := by
  match ss with
  | .nil =>
    unfold chkSs at h0
    split at h0 <;> first | (cases h0; done) | skip
    all_goals rename_i h1
    all_goals first | (cases h1; done) | skip
    exact simS_nil
  | .cons s ss =>
    have hr : (∃ i, s = .frz i ∧ chkSs tb X.N X.env.scope X.fn ss sts = true) ∨ ∃ st rest, sts = st :: rest ∧ chkS tb X.N X.env.scope X.fn s st = true ∧ chkSs tb X.N X.env.scope X.fn ss rest = true := by
      unfold chkSs at h0
      split at h0 <;> first | (cases h0; done) | skip
      · rename_i h1; cases h1; exact .inl ⟨_, rfl, h0⟩
      · rename_i h1; cases h1
        rw [Bool.and_eq_true] at h0
        exact .inr ⟨_, _, rfl, h0⟩
      · rename_i h1; cases h1
    rcases hr with ⟨i, hs, h⟩ | ⟨st, rest, rfl, h1, h2⟩
    · have ih := sndSs ss X g sts h
      rw [hs]
      exact simS_frz ih
    · exact simS_cons (sndS s X g st h1) (sndSs ss X g rest h2)
end
end
end Wf
set_option Elab.async false
set_option linter.all false
namespace Wf
open PySem PySem.Spec PyProof.Rows L2

/-! ### a def by its body, guards known -/
theorem fnG_of {P : Program} {w : World} {K : PySem.W.Frag} {mg : Str → Option Value} {base : Heap} {k : Nat} {f : Addr} {nm qn : Str} {pr : Arguments} {bd : List Stmt} {sco : Scope} {v1 v2 v3 v4 v5 v6 v7 : Value} {o1 o2 : Option Addr} {sl : Array (Option Value)} {N ps : List Str} {sp : Sp}
    (hl : K.lookup f = some ⟨v7, o2, .func (PySem.W.fnOf nm qn pr bd sco v1 v2 v3 v4 o1 v5 v6), sl⟩) (hc : PySem.W.codeIn K v5 qn = true) (fs : FnScope N ps sco) (ln : ∀ vs H Q E, sp vs H Q E → vs.length = ps.length)
    (hbd : ∀ (A : Around) (ou : List PySem.Env) (s : Shared) (H : Hp) (vs : List V) (Q : VK) (E : XK), Room k (A.deeper (envOfC qn sco s.heap.objs.size f v5)) → A.guards = some [] → sp vs H Q E →
      ∃ t, PSs (cxOf CX0 P w K mg base N qn sco f v5 A ou s H E) bd t ∧ t { nx := fun _ H' => Q .non H', rt := Q } (L2.start N vs) H) : FnG P w K mg base (k + 1) f (PySem.W.fnOf nm qn pr bd sco v1 v2 v3 v4 o1 v5 v6) ps sp := by
  refine ⟨ln, fun A ou s H args us vs Q E room gd env0 bi rel hsp => ?_⟩
  have hKs : K.In s.heap := env0.mod.kin.keeps fun b o z => (env0.bs b o z).1
  have nl : s.heap.NoLimit := env0.mod.nolimit.keeps fun b o z => (env0.bs b o z).1
  have kinds : ∀ y ∈ ps.zip us, sco.names.lookup y.1 = some .local ∨ (sco.names.lookup y.1 = some .cell ∧ ((cellsFrom (s.heap.objs.size + 1) sco.names []).lookup y.1).isSome = true) := by
    rintro ⟨z, v⟩ hz
    exact (fs.par z (List.of_mem_zip hz).1).imp id fun q => ⟨q, PySem.W.cellsFrom_some _ _ _ (.inl q)⟩
  apply codeAny_call_function room.depth (hKs _ _ hl) rfl fs.co fs.gen rfl (PySem.W.codeRec_of hKs hc)
  apply bi
  refine wpAny_newFunctionEnv_cells fs.kind kinds fun env he s1 x => ?_
  subst he
  refine ⟨nl.keeps x.toInCall.keep, codeAny_func ?_⟩
  obtain ⟨t, h1, h2⟩ := hbd A ou s H vs Q E (room.deeper _) gd hsp
  have iv : Inv (cxOf CX0 P w K mg base N qn sco f v5 A ou s H E) [] (L2.start N vs) H s1 := inv_start fs room.hd env0 (ln _ _ _ _ hsp) rel x
  refine wpAny_mono (h1.run [] s1 (L2.start N vs) H _ iv h2) (fun fl s' hs => ?_) fun e s' hs => hs
  cases fl with
  | next =>
    obtain ⟨_, H', J, q⟩ := hs
    exact ⟨V.non, H', J.os, J.bare, J.base, J.hok, rfl, q⟩
  | ret u =>
    obtain ⟨v, _, H', J, rv, q⟩ := hs
    exact ⟨v, H', J.os, J.bare, J.base, J.hok, rv, q⟩
  | brk => exact hs.choose_spec.choose_spec.2.elim
  | cont => exact hs.choose_spec.choose_spec.2.elim
end Wf
set_option Elab.async false
set_option linter.all false
namespace Wf
open PySem PySem.Spec PyProof.Rows L2

/-! ### a program: its defs, one by one -/
structure Df where
  d : He.DefD
  N : List Str
  ps : List Str
  f : Fn
def scB (N P : List Str) (sc : Scope) : Bool :=
  isFun sc && !sc.isCoroutine && !sc.isGenerator && decide N.Nodup && decide (N.take P.length = P) && P.all (fun x => locB sc x) && sc.names.all (fun y => match y.2 with | .free => false | _ => true)
theorem scB_ok {N P : List Str} {sc : Scope} (h : scB N P sc = true) : FnScope N P sc := by
  unfold scB at h
  simp only [Bool.and_eq_true, Bool.not_eq_true', decide_eq_true_eq, List.all_eq_true] at h
  obtain ⟨⟨⟨⟨⟨⟨h1, h2⟩, h3⟩, h4⟩, h5⟩, h6⟩, h7⟩ := h
  exact ⟨isFun_of h1, h2, h3, h4, h5, fun x hx => loc_of (h6 x hx), fun y hy z => by
    have q := h7 y hy
    rw [z] at q
    cases q⟩
def okDf (tb : Tb) (x : Df) : Bool := scB x.N x.ps x.d.scope && chkSs tb x.N x.d.scope (fun _ => true) x.f.body x.d.body && (x.f.ar == x.ps.length) && (x.f.n == x.N.length)
abbrev FunOf (K : PySem.W.Frag) (x : Df) (fd : FuncData) : Prop := FunD K x.d.name x.d.qual x.d.params x.d.body x.d.scope (x.d.dvs K) (x.d.kws K) (He.fAd K x.d.at_) fd
/-- all that the text and the head say -/
structure Says (G : Cr) (mg : Str → Option Value) (tb : Tb) (dfs : List Df) (gl : List D) : Prop where
  nm : tb.nm = dfs.map (·.d.name)
  ok : ∀ x ∈ dfs, okDf tb x = true
  fn : ∀ x ∈ dfs, (∃ fd, FunOf G.K x fd) ∧ mg x.d.name = some (.ref (He.fAd G.K x.d.at_))
  cb : ∀ c ∈ tb.cs, ∃ x, dfs[c.f]? = some x ∧ ∀ fd, FunOf G.K x fd → CB G fd x.ps c.np c.kn c.perm
  bi : ∀ f : Bi, mg (biName f) = none
  rng : mg "range" = none
  gl : ∀ (i : Nat) (x : Str), tb.gn[i]? = some x → ∃ u v, mg x = some u ∧ RelV v u ∧ ∀ d, gl[i]? = some d → ∀ H ρ B, VR G H ρ B d v
def prgOf (dfs : List Df) (gl : List D) : Prg := ⟨dfs.map (·.f), gl⟩
section
variable {G : Cr} {mg : Str → Option Value} {tb : Tb} {dfs : List Df} {gl : List D} {P : Program} {base : Heap}
theorem start_env {H : Hp} {ρ B : List Addr} {S : Sto} {ds : List D} {vs : List V} {N : List Str} {n : Nat} (h : n = N.length) (r : VRs G H ρ B ds vs) : ER G H ρ B B (L2.start N vs) (ds.map Sl.fz ++ List.replicate (n - ds.length) Sl.un) := by
  have lv := r.length
  refine ⟨by unfold L2.start; rw [List.length_append, List.length_append, List.length_map, List.length_map, List.length_replicate, List.length_replicate, lv, h], fun i x e => ?_, fun i j x y a e1 e2 o1 o2 => ?_⟩
  · by_cases hi : i < ds.length
    · rw [List.getElem?_append_left (by rw [List.length_map]; exact hi), List.getElem?_map] at e
      obtain ⟨d, e1, e2⟩ := Option.map_eq_some_iff.mp e
      subst e2
      obtain ⟨v, e3, q⟩ := r.get e1
      refine .fz ?_ q
      unfold L2.start
      rw [List.getElem?_append_left (by rw [List.length_map, lv]; exact hi), List.getElem?_map, e3]
      rfl
    · rw [List.getElem?_append_right (by rw [List.length_map]; omega)] at e
      have := List.mem_of_getElem? e
      rw [List.eq_of_mem_replicate this]
      exact .un
  · exfalso
    have m := List.mem_of_getElem? e1
    rcases List.mem_append.mp m with m | m
    · obtain ⟨d, _, e⟩ := List.mem_map.mp m
      rw [← e] at o1; cases o1
    · rw [List.eq_of_mem_replicate m] at o1; cases o1
theorem all_ok (hs : Says G mg tb dfs gl) (n : Nat) : ∀ (i : Nat) (x : Df) (fd : FuncData), dfs[i]? = some x → FunOf G.K x fd → FnG P G.w G.K mg base n (He.fAd G.K x.d.at_) fd x.ps (spOf G (callN (prgOf dfs gl) n i)) := by
  induction n with
  | zero =>
    intro i x fd hx F
    refine ⟨fun vs H Q E ⟨_, _, _, _, _, _, _, _, e, _⟩ => (by cases e), fun A ou s H args us vs Q E _ _ _ _ _ ⟨_, _, _, _, _, _, _, _, e, _⟩ => (by cases e)⟩
  | succ n ih =>
    intro i x fd hx F
    obtain ⟨oc, od, dV, kV, doc, pm, an, cdv, ct, osl, rfl, lk, hcd, _, _⟩ := F.ex
    have mx := List.mem_of_getElem? hx
    have ok := hs.ok x mx
    unfold okDf at ok
    simp only [Bool.and_eq_true, beq_iff_eq] at ok
    obtain ⟨⟨⟨h1, h2⟩, h3⟩, h4⟩ := ok
    have fs := scB_ok h1
    have hc : ∀ ds S r, callN (prgOf dfs gl) (n + 1) i ds S = some r → x.f.ar = ds.length ∧ runFn (orc (prgOf dfs gl) n) x.f ds S = some r := by
      intro ds S r e
      rw [callN] at e
      have e2 : (prgOf dfs gl).fs[i]? = some x.f := by
        show (dfs.map (·.f))[i]? = _
        rw [List.getElem?_map, hx]; rfl
      rw [e2] at e
      simp only at e
      split at e
      · rename_i hl
        exact ⟨hl, e⟩
      · cases e
    refine fnG_of lk hcd fs (fun vs H Q E ⟨ρ, B, S, ds, d, S', sr, r, e, _⟩ => ?_) fun A ou s H vs Q E room gd ⟨ρ, B, S, ds, d, S', sr, r, e, q⟩ => ?_
    · rw [r.length, ← (hc ds S _ e).1, h3]
    · refine ⟨tSs G (orc (prgOf dfs gl) n) x.f.body, ?_, ?_⟩
      · refine sndSs (n := n) (tb := tb) x.f.body _ ?_ _ h2
        refine ⟨rfl, rfl, rfl, fs.nd, PassesOwn.leaving, room, gd, hs.bi, hs.rng, fun c hc => ?_, hs.gl⟩
        obtain ⟨y, hy, cb⟩ := hs.cb c hc
        have my := List.mem_of_getElem? hy
        obtain ⟨⟨fy, Fy⟩, my2⟩ := hs.fn y my
        exact ⟨y.d.name, _, fy, y.ps, by rw [hs.nm, List.getElem?_map, hy]; rfl, my2, Fy.kp, cb fy Fy, ih c.f y fy hy Fy⟩
      · have e2 := (hc ds S _ e).2
        unfold runFn at e2
        have rs : RS G H ρ B [] (L2.start x.N vs) H (ds.map Sl.fz ++ List.replicate (x.f.n - ds.length) Sl.un) S ρ B :=
          ⟨sr, start_env (S := S) h4 r, fun _ h => h, fun _ h n => absurd h n, Ext.refl, fun _ h => by cases h⟩
        cases hev : evSs (orc (prgOf dfs gl) n) x.f.body (ds.map Sl.fz ++ List.replicate (x.f.n - ds.length) Sl.un) S with
        | none => rw [hev] at e2; cases e2
        | some fl =>
          rw [hev] at e2
          refine ⟨H, ρ, B, [], _, S, ρ, B, fl, rs, hev, ?_⟩
          cases fl with
          | rt d2 S2 =>
            cases e2
            exact fun v H2 ρ2 x2 s2 r2 => q v H2 ρ2 x2 s2 r2
          | nx env2 S2 =>
            cases e2
            exact fun σ2 H2 ρ2 B2 r2 => q .non H2 ρ2 r2.ext (r2.sr.weak r2.sub) .non
end
end Wf
set_option Elab.async false
set_option linter.all false
namespace Wf
open PySem PySem.Spec PyProof.Rows L2

/-! ### the law's own call -/
section
variable {P : Program} {w : World} {K : PySem.W.Frag} {mg mb : Str → Option Value} {k : Nat} {fa a : Addr} {fd : FuncData} {x : Str} {sp : Sp} {s : Shared} {vs : List Value} {ns : List Int} {H : Hp}
/-- one tracked heap, in which nothing but the script may lie -/
theorem law_core (kin : K.In s.heap) (gns : s.heap.Ns mainGlobals mg) (bns : s.heap.Ns builtinsNs mb) (bb : ∀ x : Str, x ≠ "__name__" → mb x = bootBuiltins x) (nl : s.heap.NoLimit) (ng : s.gens = #[])
    (la : s.heap.get? a = some { cls := .type "list", data := .seq vs.toArray }) (room : Room k callerA) (fn : ∀ base : Heap, FnG P w K mg base k fa fd [x] sp) (bind : BindsTo s fd ⟨[.ref a], []⟩ [(x, .ref a)])
    (hsp : sp [.ref a] H (fun v _ => v = .bl true) fun _ _ _ => False) (hok : HOk P w H s.heap) (only : ∀ b u, H b = some u → b = a ∧ K.lookup a = none ∧ ∃ o xs, u = .frz o (.lst xs)) :
    codeAny (model P w) callerA (.call (.ref fa) ⟨[.ref a], []⟩) (fun r s' => r = .ok (.ret (.bool true)) ∧ OldK s.heap s'.heap ∧ s'.os = s.os ∧ AllBare s'.gens) s := by
  have untr : ∀ {b : Addr} {o : Obj} {es : Array DictEntry} {m : Nat}, s.heap.get? b = some o → o.data = .dict es m → H b = none := by
    intro b o es m e1 e2
    cases hb : H b with
    | none => rfl
    | some u =>
      rw [(only b u hb).1, la] at e1
      cases e1
      exact absurd (show Data.seq vs.toArray _ = Data.dict es m from e2) (by intro z; cases z)
  have hid : ∀ {b : Addr} {f : Str → Option Value}, s.heap.Ns b f → (hidT s.heap H).Ns b f := fun ⟨o, es, m, e1, e2, e3⟩ => ⟨o, es, m, hidT_get e1 (untr e1 e2), e2, e3⟩
  have kin2 : K.In (hidT s.heap H) := by
    intro b o e
    refine hidT_get (kin b o e) ?_
    cases hb : H b with
    | none => rfl
    | some u =>
      have q := only b u hb
      rw [q.1, q.2.1] at e
      cases e
  obtain ⟨mc, l1, l2⟩ := nl
  have env0 : Env0 P w K mg (hidT s.heap H) callerA [] s H :=
    ⟨rfl, ⟨kin2, hid gns, ⟨mb, hid bns, bb⟩, ⟨mc, hid l1, l2⟩⟩, fun b o e => of_hidT e, Nat.le_of_eq (hidT_size _ _), trivial, fun b z => (List.not_mem_nil (show b ∈ ([] : List Addr) from z)).elim, hok, .of_eq ng⟩
  refine codeAny_mono ((fn _).run callerA [] s H ⟨[.ref a], []⟩ [.ref a] [.ref a] _ _ room rfl env0 bind (.cons rfl .nil) hsp) fun r s' h => ?_
  cases r with
  | error e => exact (show False from h).elim
  | ok fl =>
    cases fl with
    | ret u =>
      obtain ⟨v, H', os, bare, un, hok', ru, (q : v = V.bl true)⟩ := h
      subst q
      have ru' : u = Value.bool true := ru
      subst ru'
      refine ⟨rfl, OldK.of_keep fun b o e => ?_, os, bare⟩
      cases hb : H b with
      | none => exact un.keep b o e hb (fun z => (List.not_mem_nil (show b ∈ ([] : List Addr) from z)).elim) (by simp)
      | some u =>
        obtain ⟨_, _, ob, xs, rfl⟩ := only b u hb
        have g1 := (hok b _ hb).1
        have g2 := (hok' b _ (un.frzs b ob _ hb)).1
        rw [e] at g1
        cases g1
        exact g2
    | next => exact False.elim h
    | brk => exact False.elim h
    | cont => exact False.elim h
theorem law_callG (kin : K.In s.heap) (gns : s.heap.Ns mainGlobals mg) (bns : s.heap.Ns builtinsNs mb) (bb : ∀ x : Str, x ≠ "__name__" → mb x = bootBuiltins x) (nl : s.heap.NoLimit) (ng : s.gens = #[])
    (la : s.heap.get? a = some { cls := .type "list", data := .seq vs.toArray }) (hi : IntsAre vs ns) (sz : ns.length ≤ sizeLine) (room : Room k callerA) (fn : ∀ base : Heap, FnG P w K mg base k fa fd [x] sp) (bind : BindsTo s fd ⟨[.ref a], []⟩ [(x, .ref a)])
    (hsp : ∀ H, Scr K H a (ns.map V.int) → sp [.ref a] H (fun v _ => v = .bl true) fun _ _ _ => False) :
    codeAny (model P w) callerA (.call (.ref fa) ⟨[.ref a], []⟩) (fun r s' => r = .ok (.ret (.bool true)) ∧ OldK s.heap s'.heap ∧ s'.os = s.os ∧ AllBare s'.gens) s := by
  cases hk : K.lookup a with
  | some o =>
    have e := kin a o hk
    rw [la] at e
    cases e
    refine law_core (H := fun _ => none) kin gns bns bb nl ng la room fn bind (hsp _ (.inr ⟨_, vs.toArray, _, hk, rfl, rfl, rfl, ?_, ?_⟩)) (fun b u z => by cases z) fun b u z => by cases z
    · rw [List.size_toArray, hi.length]; exact sz
    · rw [List.toList_toArray]; exact vals_ints hi
  | none =>
    have eqH : ∀ b u, (if b = a then some (HO.frz { cls := .type "list", data := .seq vs.toArray } (.lst (ns.map V.int))) else none) = some u → b = a ∧ u = HO.frz { cls := .type "list", data := .seq vs.toArray } (.lst (ns.map V.int)) := fun b u z => by
      split at z
      · rename_i hb; cases z; exact ⟨hb, rfl⟩
      · cases z
    refine law_core (H := fun b => if b = a then some (.frz { cls := .type "list", data := .seq vs.toArray } (.lst (ns.map V.int))) else none) kin gns bns bb nl ng la room fn bind (hsp _ (.inl ⟨_, if_pos rfl⟩)) (fun b u z => ?_) fun b u z => ?_
    · obtain ⟨rfl, rfl⟩ := eqH b u z
      exact ⟨la, by rw [List.length_map]; exact sz, vs, _, vals_ints hi, la⟩
    · obtain ⟨rfl, rfl⟩ := eqH b u z
      exact ⟨rfl, hk, _, _, rfl⟩
end
/-- the walk of a law, from what its text and its head say -/
theorem walkG {l : PySem.W.OpenLaw} {n k i : Nat} {q : Program} {loose : List Str} {XP : (Str → Option Value) → Heap → Prop} {YP : World → Heap → Prop} {d : DefRec} {x : Str} {dfs : List Df} {gl : List D} {df : Df}
    (hn : l.most = some n) (hn2 : n ≤ sizeLine) (hdf : d.params.defaults = []) (room : Room k callerA) (hi : dfs[i]? = some df) (hps : df.ps = [x]) (hat : df.d.name = d.name)
    (F : ∀ (w : World) (mg : Str → Option Value) (h : Heap), YP w h → h.Ns mainGlobals mg → ∃ (G : Cr) (tb : Tb), G.w = w ∧ G.K.In h ∧ Says G mg tb dfs gl ∧ (∀ fd, FunOf G.K df fd → ∀ (s : Shared) (u : Value), BindsTo s fd ⟨[u], []⟩ [(x, u)]))
    (run : ∀ ns : List Int, ns.length ≤ n → ∃ S', callN (prgOf dfs gl) k i [.scr ns] [] = some (.bl true, S')) :
    PySem.W.WalkO q loose XP YP l.row.toRowW d [] (fun f vs => PySem.call f vs) := by
  refine Att.attach_call hn hdf fun w s₀ s₁ mg mb fa o pm cd doc a vs ns Gd Y ho hd hcd hmg hobj hints hlen hg => ?_
  obtain ⟨G, tb, hw, kin, says, hb⟩ := F w mg _ Y Gd.T.g
  subst hw
  obtain ⟨⟨fd, Fd⟩, hm⟩ := says.fn df (List.mem_of_getElem? hi)
  have hfa : fa = He.fAd G.K df.d.at_ := by
    have h1 : mg df.d.name = some (.ref fa) := by
      rw [hat]; exact hmg
    have h2 := h1.symm.trans hm
    cases h2
    rfl
  subst hfa
  refine law_callG kin Gd.T.g Gd.T.b Gd.T.builtins Gd.T.nolimit hg hobj hints (Nat.le_trans hlen hn2) room (fun base => hps ▸ all_ok says k i df fd hi Fd) (hb fd Fd s₁ _) fun H hS => ?_
  obtain ⟨S', e⟩ := run ns hlen
  refine ⟨[], [], [], [.scr ns], .bl true, S', ⟨rfl, List.nodup_nil, fun i o a e => (by cases e), fun a z => (by cases z)⟩, .cons (.scr hS) .nil, e, fun v H' ρ' _ _ r => ?_⟩
  cases r
  rfl
end Wf
set_option Elab.async false
set_option linter.all false
namespace Wf
open PySem PySem.Spec PyProof.Rows L2

/-! ### the module's constants, seen behind the top -/
mutual
def glB (K : PySem.W.Frag) : D → Value → Bool
  | .non, .none => true
  | .bl a, .bool b => a == b
  | .int i, .int j _ => decide (i = j)
  | .str x, .str y _ => decide (x = y)
  | .tup ds, .ref a => (match K.lookup a with
    | some ⟨.type c, _, .seq its _, _⟩ => decide (c = "tuple") && decide (its.size ≤ sizeLine) && glBs K ds its.toList
    | _ => false)
  | _, _ => false
def glBs (K : PySem.W.Frag) : List D → List Value → Bool
  | [], [] => true
  | d :: ds, u :: us => glB K d u && glBs K ds us
  | _, _ => false
end
mutual
theorem glB_ok {G : Cr} : ∀ (d : D) (u : Value), glB G.K d u = true → ∃ v, RelV v u ∧ ∀ H ρ B, VR G H ρ B d v
  | .non, u, h => by
    cases u <;> simp only [glB] at h <;> first | (cases h; done) | skip
    exact ⟨.non, rfl, fun _ _ _ => .non⟩
  | .bl a, u, h => by
    cases u <;> simp only [glB] at h <;> first | (cases h; done) | skip
    cases beq_iff_eq.mp h
    exact ⟨.bl a, rfl, fun _ _ _ => .bl a⟩
  | .int a, u, h => by
    cases u <;> simp only [glB] at h <;> first | (cases h; done) | skip
    cases of_decide_eq_true h
    exact ⟨.int a, ⟨_, rfl⟩, fun _ _ _ => .int a⟩
  | .str a, u, h => by
    cases u <;> simp only [glB] at h <;> first | (cases h; done) | skip
    cases of_decide_eq_true h
    exact ⟨.str a, ⟨_, rfl⟩, fun _ _ _ => .str a⟩
  | .tup ds, u, h => by
    cases u <;> simp only [glB] at h <;> first | (cases h; done) | skip
    rename_i a
    split at h
    · rename_i c od its n sl q
      simp only [Bool.and_eq_true, decide_eq_true_eq] at h
      obtain ⟨⟨h1, h2⟩, h3⟩ := h
      obtain ⟨vs, r, hv⟩ := glBs_ok ds _ h3
      exact ⟨.ref a, rfl, fun H ρ B => .tup (.inr ⟨_, its, n, q, congrArg Value.type h1, rfl, h2, r⟩) (hv H ρ B)⟩
    · cases h
  | .lst _, u, h => by cases u <;> simp only [glB] at h <;> cases h
  | .dct _, u, h => by cases u <;> simp only [glB] at h <;> cases h
  | .ref _, u, h => by cases u <;> simp only [glB] at h <;> cases h
  | .scr _, u, h => by cases u <;> simp only [glB] at h <;> cases h
  | .kdc _, u, h => by cases u <;> simp only [glB] at h <;> cases h
theorem glBs_ok {G : Cr} : ∀ (ds : List D) (us : List Value), glBs G.K ds us = true → ∃ vs, Vals vs us ∧ ∀ H ρ B, VRs G H ρ B ds vs
  | [], [], _ => ⟨[], .nil, fun _ _ _ => .nil⟩
  | [], _ :: _, h => by simp only [glBs] at h; cases h
  | _ :: _, [], h => by simp only [glBs] at h; cases h
  | d :: ds, u :: us, h => by
    rw [glBs, Bool.and_eq_true] at h
    obtain ⟨v, r, hv⟩ := glB_ok d u h.1
    obtain ⟨vs, rs, hs⟩ := glBs_ok ds us h.2
    exact ⟨v :: vs, .cons r rs, fun H ρ B => .cons (hv H ρ B) (hs H ρ B)⟩
end
def scD : D → Bool
  | .non => true | .bl _ => true | .int _ => true | .str _ => true | _ => false
def gvB (K : PySem.W.Frag) : D → Value → Bool
  | .kdc kvs, .ref a => kvs.all fun q => scD q.2 && (match PySem.W.nsIn K a q.1 with | some (some u) => glB K q.2 u | _ => false)
  | d, u => glB K d u
def gsB (gls : List (Str × D)) (K : PySem.W.Frag) : Bool := gls.all fun q => match PySem.W.nsIn K mainGlobals q.1 with | some (some u) => gvB K q.2 u | _ => false
def tabsOf (gls : List (Str × D)) : List He.Tab := gls.filterMap fun q => match q.2 with | .kdc kvs => some (fun K => He.ga K q.1, kvs.map (·.1)) | _ => none
abbrev AlW : Type := He.AlT × Bool
def obsW (fa : List He.Fa) (fn : List He.DefD) (gls : List (Str × D)) (K : PySem.W.Frag) : AlW := (He.obsT fa fn (tabsOf gls) K, gsB gls K)
def valW (fn : List He.DefD) (gls : List (Str × D)) (w : World) : AlW := (He.valT fn (tabsOf gls) w, true)
def SaysW (fa : List He.Fa) (fn : List He.DefD) (gls : List (Str × D)) (w : World) (K : PySem.W.Frag) : Prop := obsW fa fn gls K = valW fn gls w
def seeW (n : Nat) (fa : List He.Fa) (fn : List He.DefD) (gls : List (Str × D)) (g : Addr → Option Obj) : AlW := obsW fa fn gls (He.frG g (He.asD g n))
def hookW (n : Nat) (fa : List He.Fa) (fn : List He.DefD) (gls : List (Str × D)) : PySem.W.Hook where
  α := AlW
  obs := fun s => seeW n fa fn gls s.heap.get?
  val := fun w => valW fn gls w
  says := fun w h => ∃ K : PySem.W.Frag, K.In h ∧ SaysW fa fn gls w K
  of := fun _ _ e => ⟨_, He.frG_in, e⟩
  keeps := fun _ _ _ ⟨K, i, c⟩ k => ⟨K, PySem.W.Frag.In.keeps i k, c⟩
theorem seeW_eq {n : Nat} {fa : List He.Fa} {fn : List He.DefD} {gls : List (Str × D)} {g : Addr → Option Obj} {s : Shared} (h : ∀ a, g a = s.heap.get? a) : seeW n fa fn gls g = (hookW n fa fn gls).obs s := by
  obtain rfl : g = s.heap.get? := funext h
  rfl
section
variable {fa : List He.Fa} {fn : List He.DefD} {gls : List (Str × D)} {G : Cr} {h : Heap} {mg : Str → Option Value}
theorem ns_none {es : List DictEntry} {x : Str} {ks : List Str} {p : Params} (e : es.map He.keyOf = He.keysIn p ks) (hx : x ∉ ks) : es.find? (·.key.isStr x) = none ∧ es.any (·.refKey) = false := by
  induction es generalizing ks with
  | nil => exact ⟨rfl, rfl⟩
  | cons a r ih =>
    cases ks with
    | nil => cases e
    | cons k ks =>
      have e1 : He.keyOf a :: r.map He.keyOf = some (k, PyData.keyHash p k) :: He.keysIn p ks := e
      injection e1 with e2 e3
      obtain ⟨i1, i2⟩ := ih e3 fun z => hx (List.mem_cons_of_mem _ z)
      unfold He.keyOf at e2
      split at e2
      · rename_i y t q
        have e4 : y = k := by
          have := congrArg (fun z => z.map (·.1)) e2
          exact Option.some.inj this
        subst e4
        constructor
        · rw [List.find?_cons, q]
          have : (Value.str y t).isStr x = false := by
            show (y == x) = false
            exact beq_eq_false_iff_ne.mpr fun z => hx (by rw [← z]; exact List.mem_cons_self ..)
          rw [this]
          exact i1
        · rw [List.any_cons, i2, Bool.or_false]
          unfold DictEntry.refKey
          rw [q]
      · cases e2
theorem look_not {kvs : List (Str × D)} {x : Str} (h : kvs.lookup x = none) : x ∉ kvs.map (·.1) := by
  induction kvs with
  | nil => exact fun z => by cases z
  | cons q r ih =>
    obtain ⟨k, d⟩ := q
    rw [List.lookup_cons] at h
    split at h
    · cases h
    · rename_i hn
      intro z
      rcases List.mem_cons.mp z with z | z
      · rw [z] at hn
        exact absurd hn (by rw [beq_self_eq_true]; decide)
      · exact ih h z
theorem look_mem {kvs : List (Str × D)} {x : Str} {d : D} (h : kvs.lookup x = some d) : (x, d) ∈ kvs := by
  induction kvs with
  | nil => cases h
  | cons q r ih =>
    obtain ⟨k, e⟩ := q
    rw [List.lookup_cons] at h
    split at h
    · rename_i hn
      cases h
      rw [beq_iff_eq.mp hn]
      exact List.mem_cons_self ..
    · exact List.mem_cons_of_mem _ (ih h)
theorem gl_sc {K : PySem.W.Frag} {d : D} {u : Value} (hs : scD d = true) (h : glB K d u = true) : ∃ v, RelV v u ∧ VSc d v := by
  cases d <;> first | (cases hs; done) | skip
  all_goals (cases u <;> simp only [glB] at h <;> first | (cases h; done) | skip)
  · exact ⟨.non, rfl, rfl⟩
  · cases beq_iff_eq.mp h; exact ⟨.bl _, rfl, rfl⟩
  · cases of_decide_eq_true h; exact ⟨.int _, ⟨_, rfl⟩, rfl⟩
  · cases of_decide_eq_true h; exact ⟨.str _, ⟨_, rfl⟩, rfl⟩
theorem SaysW.gl (c : SaysW fa fn gls G.w G.K) (X : G.K.In h) (g : h.Ns mainGlobals mg) {q : Str × D} (hq : q ∈ gls) : ∃ u v, mg q.1 = some u ∧ RelV v u ∧ ∀ H ρ B, VR G H ρ B q.2 v := by
  have c2 : gsB gls G.K = true := congrArg (fun z : AlW => z.2) c
  have c3 := List.all_eq_true.mp c2 q hq
  split at c3
  · rename_i u e
    have hm := PySem.W.mg_of X g e
    obtain ⟨x, d⟩ := q
    by_cases hk : ∃ kvs a, d = .kdc kvs ∧ u = .ref a
    · obtain ⟨kvs, a, rfl, rfl⟩ := hk
      have c4 : (kvs.all fun q => scD q.2 && (match PySem.W.nsIn G.K a q.1 with | some (some u) => glB G.K q.2 u | _ => false)) = true := c3
      have ga : He.ga G.K x = a := by
        unfold He.ga
        have e' : PySem.W.nsIn G.K mainGlobals x = some (some (.ref a)) := e
        rw [e']
      have t1 : (tabsOf gls).map (fun t => He.dicW G.K (t.1 G.K)) = (tabsOf gls).map fun t => some (He.keysIn G.w.params t.2) := congrArg (fun z : AlW => z.1.2) c
      have t2 : (((fun K => He.ga K x), kvs.map (·.1)) : He.Tab) ∈ tabsOf gls := List.mem_filterMap.mpr ⟨_, hq, rfl⟩
      have t3 := List.map_inj_left.mp t1 _ t2
      have t4 : He.dicW G.K a = some (He.keysIn G.w.params (kvs.map (·.1))) := by
        have := t3
        simp only at this
        rw [ga] at this
        exact this
      obtain ⟨es, n, kd⟩ := He.dicW_ok t4
      have t5 : es.toList.map He.keyOf = He.keysIn G.w.params (kvs.map (·.1)) := by
        unfold He.dicW at t4
        rw [kd.at_] at t4
        simp only at t4
        split at t4
        · exact Option.some.inj t4
        · cases t4
      refine ⟨_, .ref a, hm, rfl, fun H ρ B => .kdc ⟨es, n, kd.at_, kd.lit, kd.low, fun y d hy => ?_, fun y hy => ?_⟩⟩
      · have c5 := List.all_eq_true.mp c4 _ (look_mem hy)
        rw [Bool.and_eq_true] at c5
        obtain ⟨h1, h2⟩ := c5
        split at h2
        · rename_i u2 e2
          obtain ⟨v, r, z⟩ := gl_sc h1 h2
          exact ⟨u2, v, e2, r, z⟩
        · cases h2
      · have z := ns_none t5 (look_not hy)
        unfold PySem.W.nsIn
        rw [kd.at_]
        simp only
        rw [z.1]
        simp only
        rw [z.2]
        rfl
    · have c4 : glB G.K d u = true := by
        have c5 : gvB G.K d u = true := c3
        unfold gvB at c5
        split at c5
        · exact absurd ⟨_, _, rfl, rfl⟩ hk
        · exact c5
      obtain ⟨v, r, hv⟩ := glB_ok d u c4
      exact ⟨u, v, hm, r, hv⟩
  · cases c3
theorem SaysW.d (c : SaysW fa fn gls G.w G.K) : He.SaysD fa fn G.K := congrArg (fun z : AlW => z.1.1) c
end
/-! ### how a call binds -/
theorem cb_of {G : Cr} {x : Df} {fd : FuncData} {ps : List Str} {np : Nat} {kn : List Str} {perm : List Ag} (F : FunOf G.K x fd) (hd : x.d.dfl = [])
    (h : ∀ (kV doc pm : Value) (an : Option Addr) (cdv ct : Value) (us ws : List Value), us.length = np → ws.length = kn.length →
      ∃ zs, bindArgs (PySem.W.fnOf x.d.name x.d.qual x.d.params x.d.body x.d.scope .none kV doc pm an cdv ct) ⟨us, kn.zip ws⟩ = pure (ps.zip zs) ∧ PermR G (us ++ ws) perm zs ∧ zs.length = ps.length) : CB G fd ps np kn perm := by
  intro s us ws _ l1 l2
  obtain ⟨oc, od, dV, kV, doc, pm, an, cdv, ct, osl, rfl, lk, hcd, hD, hK⟩ := F.ex
  have hz : x.d.dvs G.K = [] := by unfold He.DefD.dvs; rw [hd]; rfl
  rcases hD with ⟨_, rfl⟩ | ⟨e, _⟩
  · obtain ⟨zs, e, p, l⟩ := h kV doc pm an cdv ct us ws l1 l2
    exact ⟨zs, .of_eq e, p, l⟩
  · exact absurd hz e
end Wf
set_option Elab.async false
set_option linter.all false
/-! What the evaluator answers, from the left. -/
namespace Wf
open PySem L2
def Ok {α : Type} (x : Option α) (Q : α → Prop) : Prop := ∃ a, x = some a ∧ Q a
section
variable {α β : Type} {Q : α → Prop}
theorem Ok_some {a : α} : Ok (some a) Q = Q a := by
  apply propext
  exact ⟨fun ⟨_, e, q⟩ => (Option.some.inj e) ▸ q, fun q => ⟨a, rfl, q⟩⟩
theorem Ok_none : Ok (none : Option α) Q = False := by
  apply propext
  exact ⟨fun ⟨_, e, _⟩ => (by cases e), fun z => z.elim⟩
theorem Ok_bind {x : Option β} {f : β → Option α} : Ok (x.bind f) Q = Ok x fun a => Ok (f a) Q := by
  apply propext
  cases x with
  | none => exact ⟨fun ⟨_, e, _⟩ => (by cases e), fun ⟨_, e, _⟩ => (by cases e)⟩
  | some b => rw [Ok_some]; exact Iff.rfl
theorem Ok_map {x : Option β} {f : β → α} : Ok (x.map f) Q = Ok x fun a => Q (f a) := by
  apply propext
  cases x with
  | none => exact ⟨fun ⟨_, e, _⟩ => (by cases e), fun ⟨_, e, _⟩ => (by cases e)⟩
  | some b => rw [Ok_some, Option.map_some, Ok_some]
theorem Ok_ite {c : Prop} [Decidable c] {x y : Option α} : Ok (if c then x else y) Q = if c then Ok x Q else Ok y Q := by split <;> rfl
theorem Ok_if {c : Prop} [Decidable c] {a : α} : Ok (if c then some a else none) Q = (c ∧ Q a) := by
  apply propext
  split
  · rename_i h; rw [Ok_some]; exact ⟨fun q => ⟨h, q⟩, fun q => q.2⟩
  · rename_i h; rw [Ok_none]; exact ⟨fun q => q.elim, fun q => h q.1⟩
theorem Ok.mono {x : Option α} {R : α → Prop} (h : Ok x R) (f : ∀ a, R a → Q a) : Ok x Q := let ⟨a, e, r⟩ := h; ⟨a, e, f a r⟩
theorem Ok.out {x : Option α} (h : Ok x Q) : ∃ a, x = some a ∧ Q a := h
end
/-! ### a def -/
section
variable {P : Prg} {n i : Nat} {f : Fn} {ds : List D} {S : Sto} {Q : D × Sto → Prop}
def FK (Q : D × Sto → Prop) : Fl → Prop
  | .rt d S => Q (d, S)
  | .nx _ S => Q (.non, S)
theorem FK_rt {d : D} : FK Q (.rt d S) = Q (d, S) := rfl
theorem FK_nx {e : Env} : FK Q (.nx e S) = Q (.non, S) := rfl
theorem Ok_call (hf : P.fs[i]? = some f) (ha : f.ar = ds.length) (h : Ok (evSs (orc P n) f.body (ds.map .fz ++ List.replicate (f.n - ds.length) .un) S) (FK Q)) : Ok (callN P (n + 1) i ds S) Q := by
  obtain ⟨fl, e, q⟩ := h
  unfold callN
  rw [hf]
  simp only [ha, if_true]
  unfold runFn
  show Ok (match evSs (orc P n) f.body _ S with | some (.rt d S') => some (d, S') | some (.nx _ S') => some (.non, S') | none => none) Q
  rw [e]
  cases fl with
  | rt d S' => exact ⟨_, rfl, q⟩
  | nx e S' => exact ⟨_, rfl, q⟩
end
/-! ### statements -/
section
variable {C : Orc} {S : Sto} {env : Env} {K : Fl → Prop}
def SK (C : Orc) (ss : Ss) (K : Fl → Prop) : Fl → Prop
  | .nx env S => Ok (evSs C ss env S) K
  | .rt d S => K (.rt d S)
theorem SK_nx {ss : Ss} : SK C ss K (.nx env S) = Ok (evSs C ss env S) K := rfl
theorem SK_rt {ss : Ss} {d : D} : SK C ss K (.rt d S) = K (.rt d S) := rfl
theorem Ok_nil : Ok (evSs C .nil env S) K = K (.nx env S) := by rw [evSs, Ok_some]
theorem Ok_cons {s : Sx} {ss : Ss} : Ok (evSs C (.cons s ss) env S) K = Ok (evS C s env S) (SK C ss K) := by
  apply propext
  rw [evSs]
  cases h : evS C s env S with
  | none => exact ⟨fun ⟨_, e, _⟩ => (by cases e), fun ⟨_, e, _⟩ => (by cases e)⟩
  | some fl =>
    rw [Ok_some]
    cases fl with
    | nx e S' => exact Iff.rfl
    | rt d S' => exact ⟨fun ⟨_, e, q⟩ => (by cases e; exact q), fun q => ⟨_, rfl, q⟩⟩
/-- a loop, by what holds before each turn -/
theorem Ok_fr {f : D → Env → Sto → Option Fl} : ∀ {ds : List D} (J : List D → Env → Sto → Prop), J ds env S → (∀ d rest env S, J (d :: rest) env S → Ok (f d env S) fun fl => match fl with | .nx env' S' => J rest env' S' | .rt d S' => K (.rt d S')) →
    (∀ env S, J [] env S → K (.nx env S)) → Ok (frGo f ds env S) K
  | ds, J, h0, hs, he => by
    induction ds generalizing env S with
    | nil => exact ⟨_, rfl, he _ _ h0⟩
    | cons d r ih =>
      obtain ⟨fl, e, q⟩ := hs d r env S h0
      rw [frGo, e]
      cases fl with
      | nx e S' => exact ih q
      | rt d S' => exact ⟨_, rfl, q⟩
/-- a comprehension, by what holds before each item -/
theorem Ok_lc {f : D → Sto → Option (Option D × Sto)} {Q : List D × Sto → Prop} : ∀ {ds : List D} (J : List D → List D → Sto → Prop) {acc : List D} {S : Sto}, acc.length + ds.length < sizeLine → J ds acc S →
    (∀ d rest acc S, J (d :: rest) acc S → Ok (f d S) fun p => J rest (match p.1 with | some x => acc ++ [x] | none => acc) p.2) → (∀ acc S, J [] acc S → Q (acc, S)) → Ok (lcGo f ds acc S) Q
  | ds, J, acc, S, hz, h0, hs, he => by
    induction ds generalizing acc S with
    | nil => exact ⟨_, rfl, he _ _ h0⟩
    | cons d r ih =>
      obtain ⟨⟨o, S1⟩, e, q⟩ := hs d r acc S h0
      rw [List.length_cons] at hz
      rw [lcGo, e]
      cases o with
      | none => exact ih _ _ (by omega) q
      | some x =>
        simp only
        rw [if_pos (by omega)]
        exact ih _ _ (by rw [List.length_append, List.length_cons, List.length_nil]; omega) q
end
end Wf
set_option Elab.async false
set_option linter.all false
namespace Wf
open PySem L2
section
variable {S : Sto} {i j k : Int} {x y z : Str} {xs ys : List D} {b c : Bool} {kvs : List (Key × D)} {tvs : List (Str × D)} {d : D} {m : Nat}
theorem tp_n : top S .non = .non := rfl
theorem tp_b : top S (.bl b) = .bl b := rfl
theorem tp_i : top S (.int i) = .int i := rfl
theorem tp_s : top S (.str x) = .str x := rfl
theorem tp_t : top S (.tup xs) = .tup xs := rfl
theorem tp_l : top S (.lst xs) = .lst xs := rfl
theorem tp_d : top S (.dct kvs) = .dct kvs := rfl
theorem tp_k : top S (.kdc tvs) = .kdc tvs := rfl
theorem tp_c {ns : List Int} : top S (.scr ns) = .scr ns := rfl
theorem tp_r0 {R : Sto} : top (.lst xs :: R) (.ref 0) = .lst xs := rfl
theorem tp_r1 {o : Ob} {R : Sto} : top (o :: .lst xs :: R) (.ref 1) = .lst xs := rfl
theorem ix_l : semIx (.lst xs) (.int i) = atI xs i := rfl
theorem ix_t : semIx (.tup xs) (.int i) = atI xs i := rfl
theorem ix_k : semIx (.kdc tvs) (.str x) = tvs.lookup x := rfl
theorem ix_d : semIx (.dct kvs) (.str x) = look kvs (.inr x) := rfl
theorem ix_di : semIx (.dct kvs) (.int i) = look kvs (.inl i) := rfl
variable {α : Type} {a0 a1 a2 a3 a4 a5 a6 a7 : α} {l : List α}
theorem at0 : atI (a0 :: l) 0 = some a0 := by
  unfold atI ixN
  rw [if_pos (by decide), if_pos (by simp only [List.length_cons]; omega)]; rfl
theorem at_lit {n : Nat} (h : n < l.length) : atI l (n : Int) = l[n]? := by
  unfold atI ixN
  rw [if_pos (by omega), if_pos (by omega)]; rfl
theorem at1 : atI (a0 :: a1 :: l) 1 = some a1 := at_lit (l := a0 :: a1 :: l) (n := 1) (by simp)
theorem at2 : atI (a0 :: a1 :: a2 :: l) 2 = some a2 := at_lit (l := a0 :: a1 :: a2 :: l) (n := 2) (by simp)
theorem at3 : atI (a0 :: a1 :: a2 :: a3 :: l) 3 = some a3 := at_lit (l := a0 :: a1 :: a2 :: a3 :: l) (n := 3) (by simp)
theorem at4 : atI (a0 :: a1 :: a2 :: a3 :: a4 :: l) 4 = some a4 := at_lit (l := a0 :: a1 :: a2 :: a3 :: a4 :: l) (n := 4) (by simp)
theorem at5 : atI (a0 :: a1 :: a2 :: a3 :: a4 :: a5 :: l) 5 = some a5 := at_lit (l := a0 :: a1 :: a2 :: a3 :: a4 :: a5 :: l) (n := 5) (by simp)
theorem at6 : atI (a0 :: a1 :: a2 :: a3 :: a4 :: a5 :: a6 :: l) 6 = some a6 := at_lit (l := a0 :: a1 :: a2 :: a3 :: a4 :: a5 :: a6 :: l) (n := 6) (by simp)
theorem at7 : atI (a0 :: a1 :: a2 :: a3 :: a4 :: a5 :: a6 :: a7 :: l) 7 = some a7 := at_lit (l := a0 :: a1 :: a2 :: a3 :: a4 :: a5 :: a6 :: a7 :: l) (n := 7) (by simp)
/-- somewhere in a list -/
theorem Ok_at {Q : α → Prop} (h0 : 0 ≤ i) (h1 : i < l.length) (h : ∀ a, l[i.toNat]? = some a → a ∈ l → Q a) : Ok (atI l i) Q := by
  unfold atI ixN
  rw [if_pos h0, if_pos h1]
  have lt : i.toNat < l.length := by omega
  exact ⟨l[i.toNat], List.getElem?_eq_getElem lt, h _ (List.getElem?_eq_getElem lt) (List.getElem_mem lt)⟩
theorem at_neg {n : Nat} (h : n < l.length) : atI l (-((n : Int) + 1)) = l[l.length - 1 - n]? := by
  unfold atI ixN
  rw [if_neg (by omega), if_pos (by omega)]
  show l[(-((n : Int) + 1) + (l.length : Int)).toNat]? = _
  congr 1
  omega
theorem atm1 : atI (a0 :: l) (-1) = (a0 :: l)[(a0 :: l).length - 1]? := at_neg (l := a0 :: l) (n := 0) (by simp)
theorem atm2 : atI (a0 :: a1 :: l) (-2) = (a0 :: a1 :: l)[(a0 :: a1 :: l).length - 2]? := at_neg (l := a0 :: a1 :: l) (n := 1) (by simp)
theorem atm3 : atI (a0 :: a1 :: a2 :: l) (-3) = (a0 :: a1 :: a2 :: l)[(a0 :: a1 :: a2 :: l).length - 3]? := at_neg (l := a0 :: a1 :: a2 :: l) (n := 2) (by simp)
theorem b_add : semBin .Add (.int i) (.int j) = some (.int (i + j)) := rfl
theorem b_sub : semBin .Sub (.int i) (.int j) = some (.int (i - j)) := rfl
theorem b_mul : semBin .Mult (.int i) (.int j) = if (-(2 ^ 64) < i ∧ i < 2 ^ 64) ∨ (-(2 ^ 64) < j ∧ j < 2 ^ 64) then some (.int (i * j)) else none := rfl
theorem b_div : semBin .FloorDiv (.int i) (.int j) = if 0 < j ∧ j < 1073741824 then some (.int (i / j)) else none := rfl
theorem b_mod : semBin .Mod (.int i) (.int j) = if 0 < j then some (.int (i % j)) else none := rfl
theorem b_pow : semBin .Pow (.int i) (.int j) = if 0 ≤ j ∧ j ≤ 1000000 ∧ i.natAbs < 2 ^ 64 then some (.int (i ^ j.toNat)) else none := rfl
theorem b_addT : semBin .Add (.tup xs) (.tup ys) = if xs.length + ys.length ≤ sizeLine then some (.tup (xs ++ ys)) else none := rfl
theorem b_addL : semBin .Add (.lst xs) (.lst ys) = if xs.length + ys.length ≤ sizeLine then some (.lst (xs ++ ys)) else none := rfl
theorem b_mulL : semBin .Mult (.lst xs) (.int k) = if 0 ≤ k ∧ k < 2 ^ 63 ∧ xs.length * k.toNat ≤ sizeLine then some (.lst (List.replicate k.toNat xs).flatten) else none := rfl
theorem c_lt : semCmp .Lt (.int i) (.int j) = some (decide (i < j)) := rfl
theorem c_le : semCmp .LtE (.int i) (.int j) = some (decide (i ≤ j)) := rfl
theorem c_gt : semCmp .Gt (.int i) (.int j) = some (decide (j < i)) := rfl
theorem c_ge : semCmp .GtE (.int i) (.int j) = some (decide (j ≤ i)) := rfl
theorem c_eq : semCmp .Eq (.int i) (.int j) = some (decide (i = j)) := rfl
theorem c_ne : semCmp .NotEq (.int i) (.int j) = some (!decide (i = j)) := rfl
theorem c_eqs : semCmp .Eq (.str x) (.str y) = some (decide (x = y)) := rfl
theorem c_nes : semCmp .NotEq (.str x) (.str y) = some (!decide (x = y)) := rfl
theorem c_is : semCmp .Is d .non = some (isNon d) := by cases d <;> rfl
theorem c_isnt : semCmp .IsNot d .non = some (!isNon d) := by cases d <;> rfl
theorem n_n : isNon .non = true := rfl
theorem n_t : isNon (.tup xs) = false := rfl
theorem n_i : isNon (.int i) = false := rfl
theorem n_l : isNon (.lst xs) = false := rfl
theorem bl_b : bl? (.bl b) = some b := rfl
theorem int_i : int? (.int i) = some i := rfl
theorem f_len : semBi .len [.lst xs] = some (.int xs.length) := rfl
theorem f_lenT : semBi .len [.tup xs] = some (.int xs.length) := rfl
theorem f_min : semBi .min [.int i, .int j] = some (.int (if j < i then j else i)) := rfl
theorem f_max : semBi .max [.int i, .int j] = some (.int (if j > i then j else i)) := rfl
theorem f_abs : semBi .abs [.int i] = some (.int (if i < 0 then -i else i)) := rfl
theorem f_intB : semBi .int [.bl b] = some (.int (if b then 1 else 0)) := rfl
theorem f_int : semBi .int [.int i] = some (.int i) := rfl
theorem f_tup : semBi .tuple [.lst xs] = some (.tup xs) := rfl
theorem f_tupT : semBi .tuple [.tup xs] = some (.tup xs) := rfl
theorem f_lst : semBi .list [.lst xs] = some (.lst xs) := rfl
theorem f_lstT : semBi .list [.tup xs] = some (.lst xs) := rfl
theorem f_sum : semBi .sum [.lst xs] = (intsOf xs).map fun ns => .int ns.sum := rfl
theorem r_l0 {R : Sto} : refL (.ref 0) (.lst xs :: R) = some (0, xs) := rfl
theorem r_l1 {o : Ob} {R : Sto} : refL (.ref 1) (o :: .lst xs :: R) = some (1, xs) := rfl
theorem pt0 {p v : D} {r : List D} : putAt (.lst (p :: r)) (.int 0) v = some (.lst (v :: r)) := by
  unfold putAt ixN
  simp only [List.length_cons]
  rw [if_pos (by decide), if_pos (by omega)]; rfl
theorem pt1 {p q v : D} {r : List D} : putAt (.lst (p :: q :: r)) (.int 1) v = some (.lst (p :: v :: r)) := by
  unfold putAt ixN
  simp only [List.length_cons]
  rw [if_pos (by decide), if_pos (by omega)]; rfl
theorem pt2 {p q u v : D} {r : List D} : putAt (.lst (p :: q :: u :: r)) (.int 2) v = some (.lst (p :: q :: v :: r)) := by
  unfold putAt ixN
  simp only [List.length_cons]
  rw [if_pos (by decide), if_pos (by omega)]; rfl
theorem lastM {r : List Int} : (List.map D.int (r ++ [i]))[(List.map D.int (r ++ [i])).length - 1]? = some (.int i) := by
  rw [List.map_append, List.length_append]
  simp
theorem lastM' {r : List Int} : (List.map D.int (r ++ [i]))[(r ++ [i]).length - 1]? = some (.int i) := by
  have := lastM (r := r) (i := i)
  rw [List.length_map] at this
  exact this
theorem dropM {r : List Int} : (List.map D.int (r ++ [i])).dropLast = List.map D.int r := by
  rw [List.map_append]; simp
theorem apM {r : List Int} : List.map D.int r ++ [D.int i] = List.map D.int (r ++ [i]) := by simp
theorem na10 : Int.natAbs 10 = 10 := rfl
theorem empM {r : List Int} : (r ++ [i]).isEmpty = false := by cases r <;> rfl
theorem ints_map : ∀ ns : List Int, intsOf (ns.map D.int) = some ns
  | [] => rfl
  | n :: ns => by rw [List.map_cons, intsOf, ints_map ns]; rfl
theorem pd_ints : ∀ ns : List Int, pdAll (ns.map D.int) = some (ns.map PyData.int)
  | [] => rfl
  | n :: ns => by rw [List.map_cons, pdAll, D.pd, pd_ints ns]; rfl
theorem lay_ints : ∀ ns : List Int, PyData.canLayAll0 (ns.map PyData.int) = true
  | [] => rfl
  | n :: ns => by rw [List.map_cons, PyData.canLayAll0, lay_ints ns]; rfl
theorem dep_ints : ∀ ns : List Int, PyData.depthAll (ns.map PyData.int) ≤ 1
  | [] => by decide
  | n :: ns => by rw [List.map_cons, PyData.depthAll]; have := dep_ints ns; simp only [PyData.depth]; omega
theorem c_ne00 : semCmp .NotEq (.lst []) (.lst []) = some false := by decide
theorem sz0 : (0 ≤ sizeLine) = True := by simp
theorem c_neNil (ns : List Int) : semCmp .NotEq (.lst (ns.map D.int)) (.lst []) = some (!ns.isEmpty) := by
  show (semEq _ _).map (!·) = _
  unfold semEq
  rw [D.pd, pd_ints, D.pd, pdAll]
  simp only [Option.map_some]
  have h1 : SeqAt.shaped (.list (ns.map PyData.int)) = true := by
    unfold SeqAt.shaped
    have := dep_ints ns
    rw [PyData.canLay0, lay_ints, PyData.depth]
    simp only [Bool.true_and, decide_eq_true_eq]
    omega
  rw [h1]
  cases ns with
  | nil => rfl
  | cons n r => rfl
end
end Wf
set_option Elab.async false
set_option linter.all false
set_option maxRecDepth 100000
namespace Wf
open PySem L2
theorem Ok_is {α : Type} {x : Option α} {a : α} {Q : α → Prop} (e : x = some a) (q : Q a) : Ok x Q := ⟨a, e, q⟩
/-! ### the deck of draws -/
/-- the deck lies at 0 and 1 -/
def Dk (R S : Sto) : Prop := ∃ (cs : List Int) (t c : Int), cs.length ≤ 63 ∧ S = .lst (cs.map D.int) :: .lst [.ref 0, .int t, .int c] :: R
def drawB : Ss := (.cons (.put (.v 0) (.k (D.int 2)) (.bin .Add (.sub (.e (.v 0)) (.k (D.int 2))) (.k (D.int 1))))
    (.cons (.asg (.nm 2) (.sub (.e (.v 0)) (.k (D.int 1))))
    (.cons (.iff (.cmp .NotEq (.e (.sub (.e (.v 0)) (.k (D.int 0)))) (.e (.lst .nil))) (.cons (.asg (.nm 2) (.pop (.sub (.e (.v 0)) (.k (D.int 0)))))
    (.cons (.iff (.cmp .GtE (.e (.v 2)) (.e (.bin .Pow (.k (D.int 10)) (.k (D.int 18))))) (.cons (.ex (.app (.sub (.e (.v 0)) (.k (D.int 0))) (.bin .FloorDiv (.v 2) (.v 1))))
    (.cons (.ret (.bin .Mod (.v 2) (.v 1)))
    .nil)) .nil)
    .nil)) .nil)
    (.cons (.asg (.nm 3) (.bin .Mod (.bin .Mult (.bin .Add (.bin .Add (.bin .Mod (.v 2) (.k (D.int 2147483629))) (.bin .Mult (.k (D.int 65537)) (.sub (.e (.v 0)) (.k (D.int 2))))) (.k (D.int 19))) (.k (D.int 48271))) (.k (D.int 2147483647))))
    (.cons (.asg (.nm 3) (.bin .Mod (.bin .Add (.bin .Add (.bin .Mult (.v 3) (.v 3)) (.bin .Mult (.k (D.int 69621)) (.sub (.e (.v 0)) (.k (D.int 2))))) (.k (D.int 23))) (.k (D.int 2147483587))))
    (.cons (.ret (.bin .Mod (.bin .FloorDiv (.bin .Mod (.bin .Add (.bin .Mult (.v 3) (.v 3)) (.bin .Mult (.k (D.int 39373)) (.v 3))) (.k (D.int 2147483563))) (.k (D.int 64))) (.v 1)))
    .nil))))))
theorem mix_ok {m a : Int} (h0 : 0 < m) : 0 ≤ a % m ∧ a % m < m := ⟨Int.emod_nonneg _ (by omega), Int.emod_lt_of_pos _ h0⟩
theorem in64 {a m : Int} (h0 : 0 < m) (h1 : m < 2 ^ 63) : -(2 ^ 64) < a % m ∧ a % m < 2 ^ 64 := by
  have := mix_ok (a := a) h0
  omega
section
variable {P : Prg} {n i j : Nat} {R S : Sto} {Q : D × Sto → Prop}
theorem draw_ok {m : Int} (hf : P.fs[i]? = some ⟨2, 4, drawB⟩) (h : Dk R S) (h0 : 0 < m) (h1 : m < 1073741824) (q : ∀ r S', 0 ≤ r → r < m → Dk R S' → Q (.int r, S')) : Ok (callN P (n + 1) i [.ref 1, .int m] S) Q := by
  obtain ⟨cs, t, c, hl, rfl⟩ := h
  refine Ok_call hf rfl ?_
  unfold drawB
  rcases List.eq_nil_or_concat cs with rfl | ⟨r, x, rfl⟩
  · simp only [Ok_cons, Ok_nil, SK_nx, SK_rt, FK_rt, FK_nx, evS, evE, evP, evEs, evQs, evPs, evO, evC, evI, Ok_bind, Ok_map, Ok_some, Ok_none, Ok_ite, getS, peekS, setS, wipeS, orc, permA, keyOf, List.map_cons, List.map_nil, List.cons_append, List.nil_append, List.append_nil, List.replicate, List.length_cons, List.length_nil, List.getElem?_cons_zero, List.getElem?_cons_succ, List.set_cons_zero, List.set_cons_succ, Option.map_some, Option.bind_some, asgT, asgTs, seqD, Ts.len, tp_n, tp_b, tp_i, tp_s, tp_t, tp_l, tp_d, tp_k, tp_c, tp_r0, tp_r1, ix_l, ix_t, ix_k, ix_d, ix_di, at0, at1, at2, at3, at4, at5, at6, at7, atm1, atm2, atm3, b_add, b_sub, b_mul, b_div, b_mod, b_pow, b_addT, b_addL, b_mulL, c_lt, c_le, c_gt, c_ge, c_eq, c_ne, c_eqs, c_nes, c_is, c_isnt, n_n, n_t, n_i, n_l, bl_b, int_i, f_len, f_lenT, f_min, f_max, f_abs, f_intB, f_int, f_tup, f_tupT, f_lst, f_lstT, f_sum, r_l0, r_l1, ints_map, c_neNil, c_ne00, sz0, pt0, pt1, pt2, if_true, if_false, ite_true, ite_false, if_false_right, if_false_left, decide_eq_true_eq, Bool.not_eq_true', Bool.not_true, Bool.not_false, decide_eq_false_iff_not, Bool.false_eq_true, reduceCtorEq, true_and, and_true, Int.reduceLT, Int.reduceLE, Int.reducePow, Int.reduceNeg, Int.reduceMul, Int.reduceAdd, Int.reduceSub, Int.reduceToNat, Int.reduceEq, na10, Nat.reducePow, Nat.reduceLT, Nat.reduceLeDiff, Nat.reduceAdd, Nat.reduceSub, true_or, or_true, and_self]
    refine ⟨.inl (in64 (by decide) (by decide)), .inl (in64 (by decide) (by decide)), h0, ?_⟩
    exact q _ _ (mix_ok h0).1 (mix_ok h0).2 ⟨[], _, _, by simp, rfl⟩
  · rw [List.concat_eq_append] at *
    have hl2 : r.length ≤ 62 := by rw [List.length_append] at hl; simp at hl; omega
    simp only [Ok_cons, Ok_nil, SK_nx, SK_rt, FK_rt, FK_nx, evS, evE, evP, evEs, evQs, evPs, evO, evC, evI, Ok_bind, Ok_map, Ok_some, Ok_none, Ok_ite, getS, peekS, setS, wipeS, orc, permA, keyOf, List.map_cons, List.map_nil, List.cons_append, List.nil_append, List.append_nil, List.replicate, List.length_cons, List.length_nil, List.getElem?_cons_zero, List.getElem?_cons_succ, List.set_cons_zero, List.set_cons_succ, Option.map_some, Option.bind_some, asgT, asgTs, seqD, Ts.len, tp_n, tp_b, tp_i, tp_s, tp_t, tp_l, tp_d, tp_k, tp_c, tp_r0, tp_r1, ix_l, ix_t, ix_k, ix_d, ix_di, at0, at1, at2, at3, at4, at5, at6, at7, atm1, atm2, atm3, b_add, b_sub, b_mul, b_div, b_mod, b_pow, b_addT, b_addL, b_mulL, c_lt, c_le, c_gt, c_ge, c_eq, c_ne, c_eqs, c_nes, c_is, c_isnt, n_n, n_t, n_i, n_l, bl_b, int_i, f_len, f_lenT, f_min, f_max, f_abs, f_intB, f_int, f_tup, f_tupT, f_lst, f_lstT, f_sum, r_l0, r_l1, ints_map, c_neNil, c_ne00, sz0, pt0, pt1, pt2, if_true, if_false, ite_true, ite_false, if_false_right, if_false_left, decide_eq_true_eq, Bool.not_eq_true', Bool.not_true, Bool.not_false, decide_eq_false_iff_not, Bool.false_eq_true, reduceCtorEq, true_and, and_true, Int.reduceLT, Int.reduceLE, Int.reducePow, Int.reduceNeg, Int.reduceMul, Int.reduceAdd, Int.reduceSub, Int.reduceToNat, Int.reduceEq, na10, Nat.reducePow, Nat.reduceLT, Nat.reduceLeDiff, Nat.reduceAdd, Nat.reduceSub, true_or, or_true, and_self, lastM', dropM, apM, empM, List.length_map]
    split
    · refine ⟨⟨h0, h1⟩, by unfold sizeLine; omega, h0, q _ _ (mix_ok h0).1 (mix_ok h0).2 ⟨r ++ [x / m], _, _, by rw [List.length_append]; simp; omega, rfl⟩⟩
    · refine ⟨.inl (in64 (by decide) (by decide)), .inl (in64 (by decide) (by decide)), h0, ?_⟩
      exact q _ _ (mix_ok h0).1 (mix_ok h0).2 ⟨r, _, _, by omega, rfl⟩
def pickB (k : Nat) : Ss := (.cons (.ret (.sub (.e (.v 1)) (.call k (.cons (.v 0) (.cons (.bi .len (.cons (.e (.v 1)) .nil)) .nil)) .nil [.vi 0, .vi 1]))) .nil)
/-- one of a list -/
theorem pick_ok {xs : List D} (hg : P.fs[j]? = some ⟨2, 2, pickB i⟩) (hf : P.fs[i]? = some ⟨2, 4, drawB⟩) (h : Dk R S) (h0 : 0 < xs.length) (h1 : xs.length < 1073741824) (q : ∀ d S', d ∈ xs → Dk R S' → Q (d, S')) : Ok (callN P (n + 2) j [.ref 1, .lst xs] S) Q := by
  refine Ok_call hg rfl ?_
  unfold pickB
  simp only [Ok_cons, Ok_nil, SK_nx, SK_rt, FK_rt, FK_nx, evS, evE, evP, evEs, evQs, evPs, evO, evC, evI, Ok_bind, Ok_map, Ok_some, Ok_none, Ok_ite, getS, peekS, setS, wipeS, orc, permA, keyOf, List.map_cons, List.map_nil, List.cons_append, List.nil_append, List.append_nil, List.replicate, List.length_cons, List.length_nil, List.getElem?_cons_zero, List.getElem?_cons_succ, List.set_cons_zero, List.set_cons_succ, Option.map_some, Option.bind_some, asgT, asgTs, seqD, Ts.len, tp_n, tp_b, tp_i, tp_s, tp_t, tp_l, tp_d, tp_k, tp_c, tp_r0, tp_r1, ix_l, ix_t, ix_k, ix_d, ix_di, at0, at1, at2, at3, at4, at5, at6, at7, atm1, atm2, atm3, b_add, b_sub, b_mul, b_div, b_mod, b_pow, b_addT, b_addL, b_mulL, c_lt, c_le, c_gt, c_ge, c_eq, c_ne, c_eqs, c_nes, c_is, c_isnt, n_n, n_t, n_i, n_l, bl_b, int_i, f_len, f_lenT, f_min, f_max, f_abs, f_intB, f_int, f_tup, f_tupT, f_lst, f_lstT, f_sum, r_l0, r_l1, ints_map, c_neNil, c_ne00, sz0, pt0, pt1, pt2, if_true, if_false, ite_true, ite_false, if_false_right, if_false_left, decide_eq_true_eq, Bool.not_eq_true', Bool.not_true, Bool.not_false, decide_eq_false_iff_not, Bool.false_eq_true, reduceCtorEq, true_and, and_true, Int.reduceLT, Int.reduceLE, Int.reducePow, Int.reduceNeg, Int.reduceMul, Int.reduceAdd, Int.reduceSub, Int.reduceToNat, Int.reduceEq, na10, Nat.reducePow, Nat.reduceLT, Nat.reduceLeDiff, Nat.reduceAdd, Nat.reduceSub, true_or, or_true, and_self]
  refine draw_ok hf h (by omega) (by omega) fun r S' r0 r1 h' => ?_
  simp only [Ok_cons, Ok_nil, SK_nx, SK_rt, FK_rt, FK_nx, evS, evE, evP, evEs, evQs, evPs, evO, evC, evI, Ok_bind, Ok_map, Ok_some, Ok_none, Ok_ite, getS, peekS, setS, wipeS, orc, permA, keyOf, List.map_cons, List.map_nil, List.cons_append, List.nil_append, List.append_nil, List.replicate, List.length_cons, List.length_nil, List.getElem?_cons_zero, List.getElem?_cons_succ, List.set_cons_zero, List.set_cons_succ, Option.map_some, Option.bind_some, asgT, asgTs, seqD, Ts.len, tp_n, tp_b, tp_i, tp_s, tp_t, tp_l, tp_d, tp_k, tp_c, tp_r0, tp_r1, ix_l, ix_t, ix_k, ix_d, ix_di, at0, at1, at2, at3, at4, at5, at6, at7, atm1, atm2, atm3, b_add, b_sub, b_mul, b_div, b_mod, b_pow, b_addT, b_addL, b_mulL, c_lt, c_le, c_gt, c_ge, c_eq, c_ne, c_eqs, c_nes, c_is, c_isnt, n_n, n_t, n_i, n_l, bl_b, int_i, f_len, f_lenT, f_min, f_max, f_abs, f_intB, f_int, f_tup, f_tupT, f_lst, f_lstT, f_sum, r_l0, r_l1, ints_map, c_neNil, c_ne00, sz0, pt0, pt1, pt2, if_true, if_false, ite_true, ite_false, if_false_right, if_false_left, decide_eq_true_eq, Bool.not_eq_true', Bool.not_true, Bool.not_false, decide_eq_false_iff_not, Bool.false_eq_true, reduceCtorEq, true_and, and_true, Int.reduceLT, Int.reduceLE, Int.reducePow, Int.reduceNeg, Int.reduceMul, Int.reduceAdd, Int.reduceSub, Int.reduceToNat, Int.reduceEq, na10, Nat.reducePow, Nat.reduceLT, Nat.reduceLeDiff, Nat.reduceAdd, Nat.reduceSub, true_or, or_true, and_self]
  exact Ok_at r0 r1 fun a _ m => q a S' m h'
def boundsB (k : Nat) : Ss := (.cons (.ret (.sub (.e (.lst (.cons (.v 1) (.cons (.v 2) (.cons (.bin .Add (.v 1) (.call k (.cons (.v 0) (.cons (.bin .Add (.bin .Sub (.v 2) (.v 1)) (.k (D.int 1))) .nil)) .nil [.vi 0, .vi 1])) .nil))))) (.call k (.cons (.v 0) (.cons (.k (D.int 3)) .nil)) .nil [.vi 0, .vi 1]))) .nil)
theorem sz3 : (3 ≤ sizeLine) = True := by simp [sizeLine]
theorem bounds_ok {a b : Int} (hg : P.fs[j]? = some ⟨3, 3, boundsB i⟩) (hf : P.fs[i]? = some ⟨2, 4, drawB⟩) (h : Dk R S) (h0 : a ≤ b) (h1 : b - a < 1073741823) (q : ∀ r S', a ≤ r → r ≤ b → Dk R S' → Q (.int r, S')) : Ok (callN P (n + 2) j [.ref 1, .int a, .int b] S) Q := by
  refine Ok_call hg rfl ?_
  unfold boundsB
  simp only [Ok_cons, Ok_nil, SK_nx, SK_rt, FK_rt, FK_nx, evS, evE, evP, evEs, evQs, evPs, evO, evC, evI, Ok_bind, Ok_map, Ok_some, Ok_none, Ok_ite, getS, peekS, setS, wipeS, orc, permA, keyOf, List.map_cons, List.map_nil, List.cons_append, List.nil_append, List.append_nil, List.replicate, List.length_cons, List.length_nil, List.getElem?_cons_zero, List.getElem?_cons_succ, List.set_cons_zero, List.set_cons_succ, Option.map_some, Option.bind_some, asgT, asgTs, seqD, Ts.len, tp_n, tp_b, tp_i, tp_s, tp_t, tp_l, tp_d, tp_k, tp_c, tp_r0, tp_r1, ix_l, ix_t, ix_k, ix_d, ix_di, at0, at1, at2, at3, at4, at5, at6, at7, atm1, atm2, atm3, b_add, b_sub, b_mul, b_div, b_mod, b_pow, b_addT, b_addL, b_mulL, c_lt, c_le, c_gt, c_ge, c_eq, c_ne, c_eqs, c_nes, c_is, c_isnt, n_n, n_t, n_i, n_l, bl_b, int_i, f_len, f_lenT, f_min, f_max, f_abs, f_intB, f_int, f_tup, f_tupT, f_lst, f_lstT, f_sum, r_l0, r_l1, ints_map, c_neNil, c_ne00, sz0, pt0, pt1, pt2, if_true, if_false, ite_true, ite_false, if_false_right, if_false_left, decide_eq_true_eq, Bool.not_eq_true', Bool.not_true, Bool.not_false, decide_eq_false_iff_not, Bool.false_eq_true, reduceCtorEq, true_and, and_true, Int.reduceLT, Int.reduceLE, Int.reducePow, Int.reduceNeg, Int.reduceMul, Int.reduceAdd, Int.reduceSub, Int.reduceToNat, Int.reduceEq, na10, Nat.reducePow, Nat.reduceLT, Nat.reduceLeDiff, Nat.reduceAdd, Nat.reduceSub, true_or, or_true, and_self]
  refine draw_ok hf h (by omega) (by omega) fun r S' r0 r1 h' => ?_
  simp only [Ok_cons, Ok_nil, SK_nx, SK_rt, FK_rt, FK_nx, evS, evE, evP, evEs, evQs, evPs, evO, evC, evI, Ok_bind, Ok_map, Ok_some, Ok_none, Ok_ite, getS, peekS, setS, wipeS, orc, permA, keyOf, List.map_cons, List.map_nil, List.cons_append, List.nil_append, List.append_nil, List.replicate, List.length_cons, List.length_nil, List.getElem?_cons_zero, List.getElem?_cons_succ, List.set_cons_zero, List.set_cons_succ, Option.map_some, Option.bind_some, asgT, asgTs, seqD, Ts.len, tp_n, tp_b, tp_i, tp_s, tp_t, tp_l, tp_d, tp_k, tp_c, tp_r0, tp_r1, ix_l, ix_t, ix_k, ix_d, ix_di, at0, at1, at2, at3, at4, at5, at6, at7, atm1, atm2, atm3, b_add, b_sub, b_mul, b_div, b_mod, b_pow, b_addT, b_addL, b_mulL, c_lt, c_le, c_gt, c_ge, c_eq, c_ne, c_eqs, c_nes, c_is, c_isnt, n_n, n_t, n_i, n_l, bl_b, int_i, f_len, f_lenT, f_min, f_max, f_abs, f_intB, f_int, f_tup, f_tupT, f_lst, f_lstT, f_sum, r_l0, r_l1, ints_map, c_neNil, c_ne00, sz0, pt0, pt1, pt2, if_true, if_false, ite_true, ite_false, if_false_right, if_false_left, decide_eq_true_eq, Bool.not_eq_true', Bool.not_true, Bool.not_false, decide_eq_false_iff_not, Bool.false_eq_true, reduceCtorEq, true_and, and_true, Int.reduceLT, Int.reduceLE, Int.reducePow, Int.reduceNeg, Int.reduceMul, Int.reduceAdd, Int.reduceSub, Int.reduceToNat, Int.reduceEq, na10, Nat.reducePow, Nat.reduceLT, Nat.reduceLeDiff, Nat.reduceAdd, Nat.reduceSub, true_or, or_true, and_self, sz3]
  refine draw_ok hf h' (by omega) (by omega) fun r2 S2 g0 g1 h2 => ?_
  simp only [Ok_cons, Ok_nil, SK_nx, SK_rt, FK_rt, FK_nx, evS, evE, evP, evEs, evQs, evPs, evO, evC, evI, Ok_bind, Ok_map, Ok_some, Ok_none, Ok_ite, getS, peekS, setS, wipeS, orc, permA, keyOf, List.map_cons, List.map_nil, List.cons_append, List.nil_append, List.append_nil, List.replicate, List.length_cons, List.length_nil, List.getElem?_cons_zero, List.getElem?_cons_succ, List.set_cons_zero, List.set_cons_succ, Option.map_some, Option.bind_some, asgT, asgTs, seqD, Ts.len, tp_n, tp_b, tp_i, tp_s, tp_t, tp_l, tp_d, tp_k, tp_c, tp_r0, tp_r1, ix_l, ix_t, ix_k, ix_d, ix_di, at0, at1, at2, at3, at4, at5, at6, at7, atm1, atm2, atm3, b_add, b_sub, b_mul, b_div, b_mod, b_pow, b_addT, b_addL, b_mulL, c_lt, c_le, c_gt, c_ge, c_eq, c_ne, c_eqs, c_nes, c_is, c_isnt, n_n, n_t, n_i, n_l, bl_b, int_i, f_len, f_lenT, f_min, f_max, f_abs, f_intB, f_int, f_tup, f_tupT, f_lst, f_lstT, f_sum, r_l0, r_l1, ints_map, c_neNil, c_ne00, sz0, pt0, pt1, pt2, if_true, if_false, ite_true, ite_false, if_false_right, if_false_left, decide_eq_true_eq, Bool.not_eq_true', Bool.not_true, Bool.not_false, decide_eq_false_iff_not, Bool.false_eq_true, reduceCtorEq, true_and, and_true, Int.reduceLT, Int.reduceLE, Int.reducePow, Int.reduceNeg, Int.reduceMul, Int.reduceAdd, Int.reduceSub, Int.reduceToNat, Int.reduceEq, na10, Nat.reducePow, Nat.reduceLT, Nat.reduceLeDiff, Nat.reduceAdd, Nat.reduceSub, true_or, or_true, and_self]
  refine Ok_at g0 g1 fun x _ m => ?_
  simp only [List.mem_cons, List.not_mem_nil, or_false] at m
  rcases m with rfl | rfl | rfl
  · exact q _ _ (by omega) (by omega) h2
  · exact q _ _ (by omega) (by omega) h2
  · exact q _ _ (by omega) (by omega) h2
/-! ### the deck itself -/
def deckB : Ss := (.cons (.asg (.nm 1) (.bi .list (.cons (.e (.cut (.e (.v 0)) .none (.some (.k (D.int 63))))) .nil)))
    (.cons (.ret (.box (.lst (.cons (.box (.rev (.e (.v 1)))) (.cons (.bin .Add (.bi .sum (.cons (.e (.lc [2] (.nm 2) (.seq (.v 1)) .none (.bin .Mod (.v 2) (.k (D.int 1000003))))) .nil)) (.bin .Mult (.k (D.int 7919)) (.bi .len (.cons (.e (.v 1)) .nil)))) (.cons (.k (D.int 0)) .nil))))))
    .nil))
theorem cut63 (ns : List Int) : cutD (ns.map D.int) none (some 63) = (ns.take 63).map D.int := by
  unfold cutD
  have e1 : HT.sIx (ns.map D.int).length 0 none = 0 := rfl
  have e2 : HT.sIx (ns.map D.int).length (ns.map D.int).length (some 63) = min 63 (ns.map D.int).length := by
    unfold HT.sIx
    simp
  rw [e1, e2, List.drop_zero, Nat.sub_zero, ← List.map_take]
  congr 1
  rw [List.length_map, List.take_eq_take_iff]
  omega
theorem cut_s {ns : List Int} {a b : Option Int} : semCut (.scr ns) a b = some (.lst (cutD (ns.map .int) a b)) := rfl
theorem deck_ok {ns : List Int} (hf : P.fs[i]? = some ⟨1, 3, deckB⟩) (q : ∀ S', Dk [] S' → Q (.ref 1, S')) : Ok (callN P (n + 1) i [.scr ns] []) Q := by
  refine Ok_call hf rfl ?_
  unfold deckB
  simp only [Ok_cons, Ok_nil, SK_nx, SK_rt, FK_rt, FK_nx, evS, evE, evP, evEs, evQs, evPs, evO, evC, evI, Ok_bind, Ok_map, Ok_some, Ok_none, Ok_ite, getS, peekS, setS, wipeS, orc, permA, keyOf, List.map_cons, List.map_nil, List.cons_append, List.nil_append, List.append_nil, List.replicate, List.length_cons, List.length_nil, List.getElem?_cons_zero, List.getElem?_cons_succ, List.set_cons_zero, List.set_cons_succ, Option.map_some, Option.bind_some, asgT, asgTs, seqD, Ts.len, tp_n, tp_b, tp_i, tp_s, tp_t, tp_l, tp_d, tp_k, tp_c, tp_r0, tp_r1, ix_l, ix_t, ix_k, ix_d, ix_di, at0, at1, at2, at3, at4, at5, at6, at7, atm1, atm2, atm3, b_add, b_sub, b_mul, b_div, b_mod, b_pow, b_addT, b_addL, b_mulL, c_lt, c_le, c_gt, c_ge, c_eq, c_ne, c_eqs, c_nes, c_is, c_isnt, n_n, n_t, n_i, n_l, bl_b, int_i, f_len, f_lenT, f_min, f_max, f_abs, f_intB, f_int, f_tup, f_tupT, f_lst, f_lstT, f_sum, r_l0, r_l1, ints_map, c_neNil, c_ne00, sz0, pt0, pt1, pt2, if_true, if_false, ite_true, ite_false, if_false_right, if_false_left, decide_eq_true_eq, Bool.not_eq_true', Bool.not_true, Bool.not_false, decide_eq_false_iff_not, Bool.false_eq_true, reduceCtorEq, true_and, and_true, Int.reduceLT, Int.reduceLE, Int.reducePow, Int.reduceNeg, Int.reduceMul, Int.reduceAdd, Int.reduceSub, Int.reduceToNat, Int.reduceEq, na10, Nat.reducePow, Nat.reduceLT, Nat.reduceLeDiff, Nat.reduceAdd, Nat.reduceSub, true_or, or_true, and_self, cut_s, cut63]
  generalize hm : ns.take 63 = ms
  have hl : ms.length ≤ 63 := by rw [← hm, List.length_take]; omega
  rw [← List.map_reverse]
  refine Ok_lc (fun rest acc S => S = [.lst (ms.reverse.map D.int)] ∧ (∃ rs, rest = List.map D.int rs) ∧ ∃ as, acc = List.map D.int as) (by simp [sizeLine]; omega) ⟨rfl, ⟨ms, rfl⟩, [], rfl⟩ ?_ ?_
  · rintro d rest acc S ⟨rfl, ⟨rs, hr⟩, as, rfl⟩
    cases rs with
    | nil => cases hr
    | cons r rs =>
      cases hr
      simp only [Ok_cons, Ok_nil, SK_nx, SK_rt, FK_rt, FK_nx, evS, evE, evP, evEs, evQs, evPs, evO, evC, evI, Ok_bind, Ok_map, Ok_some, Ok_none, Ok_ite, getS, peekS, setS, wipeS, orc, permA, keyOf, List.map_cons, List.map_nil, List.cons_append, List.nil_append, List.append_nil, List.replicate, List.length_cons, List.length_nil, List.getElem?_cons_zero, List.getElem?_cons_succ, List.set_cons_zero, List.set_cons_succ, Option.map_some, Option.bind_some, asgT, asgTs, seqD, Ts.len, tp_n, tp_b, tp_i, tp_s, tp_t, tp_l, tp_d, tp_k, tp_c, tp_r0, tp_r1, ix_l, ix_t, ix_k, ix_d, ix_di, at0, at1, at2, at3, at4, at5, at6, at7, atm1, atm2, atm3, b_add, b_sub, b_mul, b_div, b_mod, b_pow, b_addT, b_addL, b_mulL, c_lt, c_le, c_gt, c_ge, c_eq, c_ne, c_eqs, c_nes, c_is, c_isnt, n_n, n_t, n_i, n_l, bl_b, int_i, f_len, f_lenT, f_min, f_max, f_abs, f_intB, f_int, f_tup, f_tupT, f_lst, f_lstT, f_sum, r_l0, r_l1, ints_map, c_neNil, c_ne00, sz0, pt0, pt1, pt2, if_true, if_false, ite_true, ite_false, if_false_right, if_false_left, decide_eq_true_eq, Bool.not_eq_true', Bool.not_true, Bool.not_false, decide_eq_false_iff_not, Bool.false_eq_true, reduceCtorEq, true_and, and_true, Int.reduceLT, Int.reduceLE, Int.reducePow, Int.reduceNeg, Int.reduceMul, Int.reduceAdd, Int.reduceSub, Int.reduceToNat, Int.reduceEq, na10, Nat.reducePow, Nat.reduceLT, Nat.reduceLeDiff, Nat.reduceAdd, Nat.reduceSub, true_or, or_true, and_self]
      exact ⟨⟨rs, rfl⟩, as ++ [r % 1000003], by simp⟩
  · rintro acc S ⟨rfl, -, as, rfl⟩
    simp only [Ok_cons, Ok_nil, SK_nx, SK_rt, FK_rt, FK_nx, evS, evE, evP, evEs, evQs, evPs, evO, evC, evI, Ok_bind, Ok_map, Ok_some, Ok_none, Ok_ite, getS, peekS, setS, wipeS, orc, permA, keyOf, List.map_cons, List.map_nil, List.cons_append, List.nil_append, List.append_nil, List.replicate, List.length_cons, List.length_nil, List.getElem?_cons_zero, List.getElem?_cons_succ, List.set_cons_zero, List.set_cons_succ, Option.map_some, Option.bind_some, asgT, asgTs, seqD, Ts.len, tp_n, tp_b, tp_i, tp_s, tp_t, tp_l, tp_d, tp_k, tp_c, tp_r0, tp_r1, ix_l, ix_t, ix_k, ix_d, ix_di, at0, at1, at2, at3, at4, at5, at6, at7, atm1, atm2, atm3, b_add, b_sub, b_mul, b_div, b_mod, b_pow, b_addT, b_addL, b_mulL, c_lt, c_le, c_gt, c_ge, c_eq, c_ne, c_eqs, c_nes, c_is, c_isnt, n_n, n_t, n_i, n_l, bl_b, int_i, f_len, f_lenT, f_min, f_max, f_abs, f_intB, f_int, f_tup, f_tupT, f_lst, f_lstT, f_sum, r_l0, r_l1, ints_map, c_neNil, c_ne00, sz0, pt0, pt1, pt2, if_true, if_false, ite_true, ite_false, if_false_right, if_false_left, decide_eq_true_eq, Bool.not_eq_true', Bool.not_true, Bool.not_false, decide_eq_false_iff_not, Bool.false_eq_true, reduceCtorEq, true_and, and_true, Int.reduceLT, Int.reduceLE, Int.reducePow, Int.reduceNeg, Int.reduceMul, Int.reduceAdd, Int.reduceSub, Int.reduceToNat, Int.reduceEq, na10, Nat.reducePow, Nat.reduceLT, Nat.reduceLeDiff, Nat.reduceAdd, Nat.reduceSub, true_or, or_true, and_self, List.length_map, sz3]
    refine q _ ⟨ms.reverse, _, _, by rw [List.length_reverse]; exact hl, rfl⟩
end
end Wf
set_option Elab.async false
set_option linter.all false
namespace Wf
open PySem L2
/-! ### repr: what may be shown -/
def Rp (d : D) (w k : Nat) : Prop := ∃ p, d.pd = some p ∧ p.showable = true ∧ p.shown.length ≤ w ∧ p.depth ≤ k
def RpS (ds : List D) (w k : Nat) : Prop := ∃ ps, pdAll ds = some ps ∧ PyData.showableAll ps = true ∧ ((PyData.shownAll ps).map (·.length)).sum + 2 * (PyData.shownAll ps).length ≤ w ∧ PyData.depthAll ps ≤ k
def shD (d : D) : Str := match d.pd with
  | some p => p.shown
  | none => Str.empty
section
variable {w k w1 w2 : Nat} {d : D} {ds : List D}
theorem Rp.non : Rp .non 4 k := ⟨.none, rfl, rfl, by decide, Nat.zero_le _⟩
theorem Rp.bl {b : Bool} : Rp (.bl b) 5 k := ⟨.bool b, rfl, rfl, by cases b <;> decide, Nat.zero_le _⟩
theorem Rp.int {i : Int} (h : -1000000000000 < i ∧ i < 1000000000000) : Rp (.int i) 13 k := by
  have h2 : i.natAbs < 10 ^ 12 := by omega
  refine ⟨.int i, rfl, ?_, PyData.shown_int_le h2, Nat.zero_le _⟩
  rw [PyData.showable, decide_eq_true_eq]
  by_cases z : i.natAbs = 0
  · rw [z]; decide
  · have := (Nat.log2_lt z (k := 40)).mpr (Nat.lt_of_lt_of_le h2 (by decide))
    omega
theorem Rp.str {x : Str} (h : (x.cps.toList.all fun c => decide (c < 16 ^ 8)) = true) : Rp (.str x) (10 * x.length + 2) k := by
  refine ⟨.str x, rfl, rfl, ?_, Nat.zero_le _⟩
  rw [PyData.shown]
  exact StrLaws.reprText_len x fun c hc => of_decide_eq_true (List.all_eq_true.mp h c hc)
theorem RpS.nil : RpS [] 0 k := ⟨[], rfl, rfl, Nat.le_refl _, Nat.zero_le _⟩
theorem RpS.cons (h : Rp d w1 k) (hs : RpS ds w2 k) : RpS (d :: ds) (w1 + w2 + 2) k := by
  obtain ⟨p, e1, e2, e3, e4⟩ := h
  obtain ⟨ps, f1, f2, f3, f4⟩ := hs
  refine ⟨p :: ps, by rw [pdAll, e1, f1], by rw [PyData.showableAll, e2, f2]; rfl, ?_, ?_⟩
  · rw [PyData.shownAll]
    simp only [List.map_cons, List.sum_cons, List.length_cons]
    omega
  · rw [PyData.depthAll]; omega
theorem Rp.tup (h : RpS ds w k) : Rp (.tup ds) (w + 3) (k + 1) := by
  obtain ⟨ps, f1, f2, f3, f4⟩ := h
  refine ⟨.tuple ps, by rw [D.pd, f1]; rfl, by rw [PyData.showable]; exact f2, ?_, by rw [PyData.depth]; omega⟩
  rw [PyData.shown]
  have := tupleText_len_le (PyData.shownAll ps)
  omega
theorem Rp.lst (h : RpS ds w k) : Rp (.lst ds) (w + 3) (k + 1) := by
  obtain ⟨ps, f1, f2, f3, f4⟩ := h
  refine ⟨.list ps, by rw [D.pd, f1]; rfl, by rw [PyData.showable]; exact f2, ?_, by rw [PyData.depth]; omega⟩
  rw [PyData.shown]
  have := listText_len_le (PyData.shownAll ps)
  omega
theorem Rp.wide {w' k' : Nat} (h : Rp d w k) (hw : w ≤ w') (hk : k ≤ k') : Rp d w' k' := by
  obtain ⟨p, e1, e2, e3, e4⟩ := h
  exact ⟨p, e1, e2, Nat.le_trans e3 hw, Nat.le_trans e4 hk⟩
theorem f_repr (h : Rp d w k) (hw : w ≤ sizeLine) (hk : k ≤ 64) : semBi .repr [d] = some (.str (shD d)) := by
  obtain ⟨p, e1, e2, e3, e4⟩ := h
  unfold semBi shD
  simp only [e1, e2, Bool.true_and]
  rw [if_pos]
  rw [Bool.and_eq_true, decide_eq_true_eq, decide_eq_true_eq]
  exact ⟨by omega, by omega⟩
end
end Wf
set_option Elab.async false
set_option linter.all false
set_option maxRecDepth 100000
set_option maxHeartbeats 4000000
namespace K06
open PySem PySem.Spec PyProof.Rows L2 Wf

/-- has_square -/
def b0 : Ss := (.cons (.asg (.st (.cons (.nm 3) (.cons (.nm 4) (.cons (.nm 5) (.cons (.nm 6) (.cons (.nm 7) .nil))))) 4) (.v 0))
    (.cons (.ret (.and_ (.chn .LtE .LtE (.v 3) (.v 1) (.v 5)) (.chn .LtE .LtE (.v 4) (.v 2) (.v 6))))
    .nil))
/-- last_step -/
def b1 : Ss := (.cons (.iff (.cmp .Is (.e (.v 0)) (.e (.k D.non))) (.cons (.ret (.k (D.int 0)))
    .nil) .nil)
    (.cons (.ret (.ite (.cmp .Eq (.e (.sub (.e (.v 0)) (.k (D.int 0)))) (.e (.k (D.str "over")))) (.sub (.e (.v 0)) (.k (D.int 2))) (.sub (.e (.gl 0)) (.sub (.e (.v 0)) (.k (D.int 0))))))
    .nil))
/-- box_for -/
def b2 : Ss := (.cons (.ret (.ite (.and_ (.cmp .Eq (.e (.sub (.e (.v 0)) (.k (D.int 0)))) (.e (.k (D.str "bring")))) (.cmp .Eq (.e (.v 1)) (.e (.k (D.int 1))))) (.sub (.e (.v 0)) (.k (D.int 2))) (.sub (.e (.v 0)) (.k (D.int 1)))))
    .nil)
/-- step_by -/
def b3 : Ss := (.cons (.iff (.or_ (.cmp .Is (.e (.v 0)) (.e (.k D.non))) (.cmp .Eq (.e (.v 1)) (.e (.call 1 (.cons (.v 0) .nil) .nil [.vi 0])))) (.cons (.ret (.v 1))
    .nil) .nil)
    (.cons (.asg (.st (.cons (.nm 5) (.cons (.nm 6) (.cons (.nm 7) .nil))) 0) (.v 0))
    (.cons (.iff (.and_ (.chn .LtE .LtE (.v 6) (.v 4) (.v 7)) (.call 0 (.cons (.call 2 (.cons (.v 0) (.cons (.v 1) .nil)) .nil [.vi 0, .vi 1]) (.cons (.v 2) (.cons (.v 3) .nil))) .nil [.vi 0, .vi 1, .vi 2])) (.cons (.ret (.bin .Add (.v 1) (.k (D.int 1))))
    .nil) .nil)
    (.cons (.ret (.ite (.cmp .Eq (.e (.sub (.e (.v 0)) (.k (D.int 0)))) (.e (.k (D.str "over")))) (.k (D.int 0)) (.v 1)))
    .nil))))
/-- load_of -/
def b4 : Ss := (.cons (.iff (.or_ (.cmp .Is (.e (.v 0)) (.e (.k D.non))) (.or_ (.cmp .NotEq (.e (.sub (.e (.v 0)) (.k (D.int 0)))) (.e (.k (D.str "bring")))) (.cmp .NotEq (.e (.v 1)) (.e (.k (D.int 1)))))) (.cons (.ret (.k (D.int 0)))
    .nil) .nil)
    (.cons (.ret (.sub (.e (.v 0)) (.k (D.int 3))))
    .nil))
/-- _law_deck -/
def b5 : Ss := (.cons (.asg (.nm 1) (.bi .list (.cons (.e (.cut (.e (.v 0)) .none (.some (.k (D.int 63))))) .nil)))
    (.cons (.ret (.box (.lst (.cons (.box (.rev (.e (.v 1)))) (.cons (.bin .Add (.bi .sum (.cons (.e (.lc [2] (.nm 2) (.seq (.v 1)) .none (.bin .Mod (.v 2) (.k (D.int 1000003))))) .nil)) (.bin .Mult (.k (D.int 7919)) (.bi .len (.cons (.e (.v 1)) .nil)))) (.cons (.k (D.int 0)) .nil))))))
    .nil))
/-- _law_draw -/
def b6 : Ss := (.cons (.put (.v 0) (.k (D.int 2)) (.bin .Add (.sub (.e (.v 0)) (.k (D.int 2))) (.k (D.int 1))))
    (.cons (.asg (.nm 2) (.sub (.e (.v 0)) (.k (D.int 1))))
    (.cons (.iff (.cmp .NotEq (.e (.sub (.e (.v 0)) (.k (D.int 0)))) (.e (.lst .nil))) (.cons (.asg (.nm 2) (.pop (.sub (.e (.v 0)) (.k (D.int 0)))))
    (.cons (.iff (.cmp .GtE (.e (.v 2)) (.e (.bin .Pow (.k (D.int 10)) (.k (D.int 18))))) (.cons (.ex (.app (.sub (.e (.v 0)) (.k (D.int 0))) (.bin .FloorDiv (.v 2) (.v 1))))
    (.cons (.ret (.bin .Mod (.v 2) (.v 1)))
    .nil)) .nil)
    .nil)) .nil)
    (.cons (.asg (.nm 3) (.bin .Mod (.bin .Mult (.bin .Add (.bin .Add (.bin .Mod (.v 2) (.k (D.int 2147483629))) (.bin .Mult (.k (D.int 65537)) (.sub (.e (.v 0)) (.k (D.int 2))))) (.k (D.int 19))) (.k (D.int 48271))) (.k (D.int 2147483647))))
    (.cons (.asg (.nm 3) (.bin .Mod (.bin .Add (.bin .Add (.bin .Mult (.v 3) (.v 3)) (.bin .Mult (.k (D.int 69621)) (.sub (.e (.v 0)) (.k (D.int 2))))) (.k (D.int 23))) (.k (D.int 2147483587))))
    (.cons (.ret (.bin .Mod (.bin .FloorDiv (.bin .Mod (.bin .Add (.bin .Mult (.v 3) (.v 3)) (.bin .Mult (.k (D.int 39373)) (.v 3))) (.k (D.int 2147483563))) (.k (D.int 64))) (.v 1)))
    .nil))))))
/-- _law_pick -/
def b7 : Ss := (.cons (.ret (.sub (.e (.v 1)) (.call 6 (.cons (.v 0) (.cons (.bi .len (.cons (.e (.v 1)) .nil)) .nil)) .nil [.vi 0, .vi 1])))
    .nil)
/-- _law_bounds -/
def b8 : Ss := (.cons (.ret (.sub (.e (.lst (.cons (.v 1) (.cons (.v 2) (.cons (.bin .Add (.v 1) (.call 6 (.cons (.v 0) (.cons (.bin .Add (.bin .Sub (.v 2) (.v 1)) (.k (D.int 1))) .nil)) .nil [.vi 0, .vi 1])) .nil))))) (.call 6 (.cons (.v 0) (.cons (.k (D.int 3)) .nil)) .nil [.vi 0, .vi 1])))
    .nil)
/-- _law_fields -/
def b9 : Ss := (.cons (.own 1 (.dsp (.cons (.k (D.str "wide")) (.call 7 (.cons (.v 0) (.cons (.lst (.cons (.k (D.int 1)) (.cons (.k (D.int 2)) (.cons (.k (D.int 9)) (.cons (.k (D.int 10)) (.cons (.k (D.int 12)) (.cons (.k (D.int 4)) .nil))))))) .nil)) .nil [.vi 0, .vi 1]) (.cons (.k (D.str "high")) (.call 7 (.cons (.v 0) (.cons (.lst (.cons (.k (D.int 1)) (.cons (.k (D.int 2)) (.cons (.k (D.int 9)) (.cons (.k (D.int 10)) (.cons (.k (D.int 12)) (.cons (.k (D.int 4)) .nil))))))) .nil)) .nil [.vi 0, .vi 1]) .nil))))
    (.cons (.pst 1 (.k (D.str "day")) (.call 7 (.cons (.v 0) (.cons (.lst (.cons (.k (D.int 1)) (.cons (.k (D.int 2)) (.cons (.k (D.int 9)) (.cons (.k (D.int 10)) (.cons (.k (D.int 24)) (.cons (.k (D.int 5)) .nil))))))) .nil)) .nil [.vi 0, .vi 1]))
    (.cons (.asg (.nm 2) (.bi .min (.cons (.e (.sub (.pk 1) (.k (D.str "wide")))) (.cons (.e (.call 7 (.cons (.v 0) (.cons (.lst (.cons (.k (D.int 0)) (.cons (.k (D.int 1)) (.cons (.k (D.int 1)) (.cons (.k (D.int 2)) (.cons (.k (D.int 4)) .nil)))))) .nil)) .nil [.vi 0, .vi 1])) .nil))))
    (.cons (.pst 1 (.k (D.str "pads")) (.bi .tuple (.cons (.e (.lc [3] (.nm 3) (.rng1 (.v 2)) .none (.tup (.cons (.v 3) (.cons (.k (D.int 0)) (.cons (.v 3) (.cons (.k (D.int 0)) (.cons (.bin .Add (.k (D.int 1)) (.call 6 (.cons (.v 0) (.cons (.k (D.int 4)) .nil)) .nil [.vi 0, .vi 1])) .nil)))))))) .nil)))
    (.cons (.frz 1)
    (.cons (.ret (.v 1))
    .nil))))))
/-- _law_box -/
def b10 : Ss := (.cons (.asg (.tp (.cons (.nm 2) (.cons (.nm 3) .nil))) (.tup (.cons (.call 8 (.cons (.v 0) (.cons (.k (D.int 0)) (.cons (.bin .Sub (.sub (.e (.v 1)) (.k (D.str "wide"))) (.k (D.int 1))) .nil))) .nil [.vi 0, .vi 1, .vi 2]) (.cons (.call 8 (.cons (.v 0) (.cons (.k (D.int 0)) (.cons (.bin .Sub (.sub (.e (.v 1)) (.k (D.str "high"))) (.k (D.int 1))) .nil))) .nil [.vi 0, .vi 1, .vi 2]) .nil))))
    (.cons (.ret (.tup (.cons (.v 2) (.cons (.v 3) (.cons (.call 8 (.cons (.v 0) (.cons (.v 2) (.cons (.bin .Sub (.sub (.e (.v 1)) (.k (D.str "wide"))) (.k (D.int 1))) .nil))) .nil [.vi 0, .vi 1, .vi 2]) (.cons (.call 8 (.cons (.v 0) (.cons (.v 3) (.cons (.bin .Sub (.sub (.e (.v 1)) (.k (D.str "high"))) (.k (D.int 1))) .nil))) .nil [.vi 0, .vi 1, .vi 2]) .nil))))))
    .nil))
/-- _law_tasks -/
def b11 : Ss := (.cons (.own 2 (.lst .nil))
    (.cons (.fr (.nm 3) (.rng1 (.k (D.int 3))) (.cons (.asg (.nm 4) (.call 8 (.cons (.v 0) (.cons (.k (D.int 0)) (.cons (.sub (.e (.v 1)) (.k (D.str "day"))) .nil))) .nil [.vi 0, .vi 1, .vi 2]))
    (.cons (.asg (.nm 5) (.tup (.cons (.v 4) (.cons (.call 8 (.cons (.v 0) (.cons (.v 4) (.cons (.sub (.e (.v 1)) (.k (D.str "day"))) .nil))) .nil [.vi 0, .vi 1, .vi 2]) .nil))))
    (.cons (.asg (.tp (.cons (.nm 6) (.cons (.nm 7) .nil))) (.tup (.cons (.call 10 (.cons (.v 0) (.cons (.v 1) .nil)) .nil [.vi 0, .vi 1]) (.cons (.call 10 (.cons (.v 0) (.cons (.v 1) .nil)) .nil [.vi 0, .vi 1]) .nil))))
    (.cons (.asg (.nm 8) (.lst (.cons (.tup (.cons (.k (D.str "look")) (.cons (.v 6) .nil))) (.cons (.tup (.cons (.k (D.str "bring")) (.cons (.v 6) (.cons (.v 7) (.cons (.call 8 (.cons (.v 0) (.cons (.k (D.int 0)) (.cons (.k (D.int 9)) .nil))) .nil [.vi 0, .vi 1, .vi 2]) .nil))))) (.cons (.tup (.cons (.k (D.str "over")) (.cons (.v 6) (.cons (.call 8 (.cons (.v 0) (.cons (.k (D.int 1)) (.cons (.k (D.int 9)) .nil))) .nil [.vi 0, .vi 1, .vi 2]) .nil)))) .nil)))))
    (.cons (.apS 2 (.bin .Add (.sub (.e (.v 8)) (.v 3)) (.v 5)))
    .nil))))))
    (.cons (.frz 2)
    (.cons (.ret (.v 2))
    .nil))))
/-- _law_last -/
def b12 : Ss := (.cons (.iff (.cmp .Is (.e (.v 0)) (.e (.k D.non))) (.cons (.ret (.k (D.int 0)))
    .nil) .nil)
    (.cons (.ret (.ite (.cmp .Eq (.e (.sub (.e (.v 0)) (.k (D.int 0)))) (.e (.k (D.str "over")))) (.sub (.e (.v 0)) (.k (D.int 2))) (.sub (.e (.dsp (.cons (.k (D.str "look")) (.k (D.int 1)) (.cons (.k (D.str "bring")) (.k (D.int 2)) .nil)))) (.sub (.e (.v 0)) (.k (D.int 0))))))
    .nil))
/-- _law_in -/
def b13 : Ss := (.cons (.ret (.and_ (.cmp .LtE (.e (.sub (.e (.v 0)) (.k (D.int 0)))) (.e (.v 1))) (.and_ (.cmp .LtE (.e (.v 1)) (.e (.sub (.e (.v 0)) (.k (D.int 2))))) (.and_ (.cmp .LtE (.e (.sub (.e (.v 0)) (.k (D.int 1)))) (.e (.v 2))) (.cmp .LtE (.e (.v 2)) (.e (.sub (.e (.v 0)) (.k (D.int 3)))))))))
    .nil)
/-- _law_becomes -/
def b14 : Ss := (.cons (.iff (.or_ (.cmp .Is (.e (.v 0)) (.e (.k D.non))) (.cmp .Eq (.e (.v 1)) (.e (.call 12 (.cons (.v 0) .nil) .nil [.vi 0])))) (.cons (.ret (.v 1))
    .nil) .nil)
    (.cons (.asg (.nm 5) (.and_ (.cmp .LtE (.e (.sub (.e (.v 0)) (.neg (.k (D.int 2))))) (.e (.v 4))) (.cmp .LtE (.e (.v 4)) (.e (.sub (.e (.v 0)) (.neg (.k (D.int 1))))))))
    (.cons (.iff (.cmp .Eq (.e (.sub (.e (.v 0)) (.k (D.int 0)))) (.e (.k (D.str "over")))) (.cons (.ret (.sub (.e (.lst (.cons (.k (D.int 0)) (.cons (.bin .Add (.v 1) (.k (D.int 1))) .nil)))) (.bi .int (.cons (.e (.and_ (.v 5) (.call 13 (.cons (.sub (.e (.v 0)) (.k (D.int 1))) (.cons (.v 2) (.cons (.v 3) .nil))) .nil [.vi 0, .vi 1, .vi 2]))) .nil))))
    .nil) .nil)
    (.cons (.asg (.nm 6) (.sub (.e (.v 0)) (.bin .Add (.k (D.int 1)) (.bi .int (.cons (.e (.and_ (.cmp .Eq (.e (.sub (.e (.v 0)) (.k (D.int 0)))) (.e (.k (D.str "bring")))) (.cmp .Eq (.e (.v 1)) (.e (.k (D.int 1)))))) .nil)))))
    (.cons (.ret (.bin .Add (.v 1) (.bi .int (.cons (.e (.and_ (.v 5) (.call 13 (.cons (.v 6) (.cons (.v 2) (.cons (.v 3) .nil))) .nil [.vi 0, .vi 1, .vi 2]))) .nil))))
    .nil)))))
/-- _law_square -/
def b15 : Ss := (.cons (.asg (.tp (.cons (.nm 3) (.cons (.nm 4) .nil))) (.tup (.cons (.call 6 (.cons (.v 0) (.cons (.k (D.int 7)) .nil)) .nil [.vi 0, .vi 1]) (.cons (.tup (.cons (.k (D.int 0)) (.cons (.k (D.int 0)) (.cons (.k (D.int 0)) (.cons (.k (D.int 0)) .nil))))) .nil))))
    (.cons (.iff (.cmp .IsNot (.e (.v 2)) (.e (.k D.non))) (.cons (.asg (.nm 4) (.ite (.and_ (.cmp .Eq (.e (.sub (.e (.v 2)) (.k (D.int 0)))) (.e (.k (D.str "bring")))) (.cmp .Eq (.e (.call 6 (.cons (.v 0) (.cons (.k (D.int 2)) .nil)) .nil [.vi 0, .vi 1])) (.e (.k (D.int 1))))) (.sub (.e (.v 2)) (.k (D.int 2))) (.sub (.e (.v 2)) (.k (D.int 1)))))
    .nil) .nil)
    (.cons (.asg (.nm 5) (.tup (.cons (.bin .Sub (.call 6 (.cons (.v 0) (.cons (.bin .Add (.sub (.e (.v 1)) (.k (D.str "wide"))) (.k (D.int 2))) .nil)) .nil [.vi 0, .vi 1]) (.k (D.int 1))) (.cons (.bin .Sub (.call 6 (.cons (.v 0) (.cons (.bin .Add (.sub (.e (.v 1)) (.k (D.str "high"))) (.k (D.int 2))) .nil)) .nil [.vi 0, .vi 1]) (.k (D.int 1))) .nil))))
    (.cons (.asg (.tp (.cons (.nm 6) (.cons (.nm 7) (.cons (.nm 8) (.cons (.nm 9) .nil))))) (.v 4))
    (.cons (.ret (.sub (.e (.lst (.cons (.tup (.cons (.v 6) (.cons (.v 7) .nil))) (.cons (.tup (.cons (.v 8) (.cons (.v 9) .nil))) (.cons (.tup (.cons (.v 6) (.cons (.v 9) .nil))) (.cons (.tup (.cons (.bin .Sub (.v 6) (.k (D.int 1))) (.cons (.v 7) .nil))) (.cons (.tup (.cons (.v 8) (.cons (.bin .Add (.v 9) (.k (D.int 1))) .nil))) (.cons (.v 5) (.cons (.tup (.cons (.bin .FloorDiv (.bin .Add (.v 6) (.v 8)) (.k (D.int 2))) (.cons (.bin .FloorDiv (.bin .Add (.v 7) (.v 9)) (.k (D.int 2))) .nil))) .nil))))))))) (.v 3)))
    .nil)))))
/-- _law_right -/
def b16 : Ss := (.cons (.asg (.nm 5) (.call 14 (.cons (.v 0) (.cons (.v 1) (.cons (.v 2) (.cons (.v 3) (.cons (.v 4) .nil))))) .nil [.vi 0, .vi 1, .vi 2, .vi 3, .vi 4]))
    (.cons (.asg (.nm 6) (.lst (.cons (.call 3 (.cons (.v 0) (.cons (.v 1) (.cons (.v 2) (.cons (.v 3) (.cons (.v 4) .nil))))) .nil [.vi 0, .vi 1, .vi 2, .vi 3, .vi 4]) (.cons (.call 3 .nil (.cons (.v 4) (.cons (.v 3) (.cons (.v 2) (.cons (.v 1) (.cons (.v 0) .nil))))) [.vi 4, .vi 3, .vi 2, .vi 1, .vi 0]) .nil))))
    (.cons (.asg (.nm 7) (.ite (.and_ (.cmp .IsNot (.e (.v 0)) (.e (.k D.non))) (.and_ (.cmp .Eq (.e (.sub (.e (.v 0)) (.k (D.int 0)))) (.e (.k (D.str "bring")))) (.cmp .Eq (.e (.v 1)) (.e (.k (D.int 1)))))) (.sub (.e (.v 0)) (.k (D.int 3))) (.k (D.int 0))))
    (.cons (.ret (.cmp .Eq (.e (.bi .repr (.cons (.e (.bin .Add (.v 6) (.lst (.cons (.call 4 (.cons (.v 0) (.cons (.v 1) .nil)) .nil [.vi 0, .vi 1]) (.cons (.call 4 .nil (.cons (.v 1) (.cons (.v 0) .nil)) [.vi 1, .vi 0]) .nil))))) .nil))) (.e (.bi .repr (.cons (.e (.lst (.cons (.v 5) (.cons (.v 5) (.cons (.v 7) (.cons (.v 7) .nil)))))) .nil)))))
    .nil))))
/-- law -/
def b17 : Ss := (.cons (.asg (.nm 1) (.call 5 (.cons (.v 0) .nil) .nil [.vi 0]))
    (.cons (.asg (.nm 2) (.call 9 (.cons (.v 1) .nil) .nil [.vi 0]))
    (.cons (.fr (.nm 3) (.seq (.bin .Add (.call 11 (.cons (.v 1) (.cons (.v 2) .nil)) .nil [.vi 0, .vi 1]) (.lst (.cons (.k D.non) .nil)))) (.cons (.asg (.tp (.cons (.nm 4) (.cons (.nm 5) .nil))) (.tup (.cons (.bi .repr (.cons (.e (.v 3)) .nil)) (.cons (.k (D.int 0)) .nil))))
    (.cons (.iff (.cmp .NotEq (.e (.bi .repr (.cons (.e (.lst (.cons (.call 1 (.cons (.v 3) .nil) .nil [.vi 0]) (.cons (.call 1 .nil (.cons (.v 3) .nil) [.vi 0]) .nil)))) .nil))) (.e (.bi .repr (.cons (.e (.bin .Mult (.lst (.cons (.call 12 (.cons (.v 3) .nil) .nil [.vi 0]) .nil)) (.k (D.int 2)))) .nil)))) (.cons (.ret (.k (D.bl false)))
    .nil) .nil)
    (.cons (.fr (.nm 6) (.rng1 (.bin .Add (.sub (.e (.v 2)) (.k (D.str "day"))) (.k (D.int 1)))) (.cons (.asg (.tp (.cons (.nm 7) (.cons (.nm 8) .nil))) (.call 15 (.cons (.v 1) (.cons (.v 2) (.cons (.v 3) .nil))) .nil [.vi 0, .vi 1, .vi 2]))
    (.cons (.iff (.cmp .NotEq (.e (.lc [10] (.nm 10) (.rng1 (.bin .Add (.call 12 (.cons (.v 3) .nil) .nil [.vi 0]) (.k (D.int 1)))) (.some (.nt (.call 16 (.cons (.v 3) (.cons (.v 10) (.cons (.v 7) (.cons (.v 8) (.cons (.v 6) .nil))))) .nil [.vi 0, .vi 1, .vi 2, .vi 3, .vi 4]))) (.v 10))) (.e (.lst .nil))) (.cons (.ret (.k (D.bl false)))
    .nil) .nil)
    (.cons (.asg (.nm 9) (.call 3 (.cons (.v 3) (.cons (.v 5) (.cons (.v 7) (.cons (.v 8) (.cons (.v 6) .nil))))) .nil [.vi 0, .vi 1, .vi 2, .vi 3, .vi 4]))
    (.cons (.iff (.cmp .NotEq (.e (.bi .repr (.cons (.e (.v 9)) .nil))) (.e (.bi .repr (.cons (.e (.call 14 (.cons (.v 3) (.cons (.v 5) (.cons (.v 7) (.cons (.v 8) (.cons (.v 6) .nil))))) .nil [.vi 0, .vi 1, .vi 2, .vi 3, .vi 4])) .nil)))) (.cons (.ret (.k (D.bl false)))
    .nil) .nil)
    (.cons (.asg (.nm 5) (.v 9))
    .nil))))))
    (.cons (.iff (.cmp .NotEq (.e (.bi .repr (.cons (.e (.v 3)) .nil))) (.e (.v 4))) (.cons (.ret (.k (D.bl false)))
    .nil) .nil)
    .nil)))))
    (.cons (.ret (.k (D.bl true)))
    .nil))))
def fns : List Fn := [⟨3, 8, b0⟩, ⟨1, 1, b1⟩, ⟨2, 2, b2⟩, ⟨5, 8, b3⟩, ⟨2, 2, b4⟩, ⟨1, 3, b5⟩, ⟨2, 4, b6⟩, ⟨2, 2, b7⟩, ⟨3, 3, b8⟩, ⟨1, 4, b9⟩, ⟨2, 4, b10⟩, ⟨2, 9, b11⟩, ⟨1, 1, b12⟩, ⟨3, 3, b13⟩, ⟨5, 7, b14⟩, ⟨3, 10, b15⟩, ⟨5, 8, b16⟩, ⟨1, 11, b17⟩]
def glv : List D := [(D.kdc [("look", (D.int 1)), ("bring", (D.int 2))])]
def prg : Prg := ⟨fns, glv⟩
end K06
set_option Elab.async false
set_option linter.all false
set_option maxRecDepth 100000
namespace K06
open PySem L2 Wf
structure Bx where
  a : Int
  b : Int
  c : Int
  d : Int
def Bx.t (x : Bx) : D := .tup [.int x.a, .int x.b, .int x.c, .int x.d]
inductive Tk where
  | no | look (b : Bx) (f l : Int) | bring (b o : Bx) (n f l : Int) | over (b : Bx) (n f l : Int)
def Tk.t : Tk → D
  | .no => .non
  | .look b f l => .tup [.str "look", b.t, .int f, .int l]
  | .bring b o n f l => .tup [.str "bring", b.t, o.t, .int n, .int f, .int l]
  | .over b n f l => .tup [.str "over", b.t, .int n, .int f, .int l]
def lastF : Tk → Int
  | .no => 0 | .look _ _ _ => 1 | .bring _ _ _ _ _ => 2 | .over _ n _ _ => n
def inB (b : Bx) (x y : Int) : Bool := decide (b.a ≤ x) && (decide (x ≤ b.c) && (decide (b.b ≤ y) && decide (y ≤ b.d)))
def stepF : Tk → Int → Int → Int → Int → Int
  | .no, s, _, _, _ => s
  | .look b f l, s, x, y, h => if s = 1 then s else if f ≤ h ∧ h ≤ l ∧ inB b x y = true then s + 1 else s
  | .bring b o _ f l, s, x, y, h => if s = 2 then s else if f ≤ h ∧ h ≤ l ∧ inB (if s = 1 then o else b) x y = true then s + 1 else s
  | .over b n f l, s, x, y, h => if s = n then s else if f ≤ h ∧ h ≤ l ∧ inB b x y = true then s + 1 else 0
def loadF : Tk → Int → Int
  | .bring _ _ n _ _, s => if s = 1 then n else 0
  | _, _ => 0
section
variable {n : Nat} {S : Sto} {Q : D × Sto → Prop} {t : Tk} {s x y h : Int} {b : Bx}
theorem has_ok (q : Q (.bl (inB b x y), S)) : Ok (callN prg (n + 1) 0 [b.t, .int x, .int y] S) Q := by
  refine Ok_call (f := ⟨3, 8, b0⟩) rfl rfl ?_
  unfold b0 Bx.t
  simp +decide only [Ok_cons, Ok_nil, SK_nx, SK_rt, FK_rt, FK_nx, evS, evE, evP, evEs, evQs, evPs, evO, evC, evI, Ok_bind, Ok_map, Ok_some, Ok_none, Ok_ite, getS, peekS, setS, wipeS, orc, permA, keyOf, List.map_cons, List.map_nil, List.cons_append, List.nil_append, List.append_nil, List.replicate, List.length_cons, List.length_nil, List.getElem?_cons_zero, List.getElem?_cons_succ, List.set_cons_zero, List.set_cons_succ, Option.map_some, Option.bind_some, asgT, asgTs, seqD, Ts.len, starD, List.take_succ_cons, List.take_zero, List.drop_succ_cons, List.drop_zero, List.take_nil, List.drop_nil, List.flatten_cons, List.flatten_nil, tp_n, tp_b, tp_i, tp_s, tp_t, tp_l, tp_d, tp_k, tp_c, tp_r0, tp_r1, ix_l, ix_t, ix_k, ix_d, ix_di, at0, at1, at2, at3, at4, at5, at6, at7, atm1, atm2, atm3, b_add, b_sub, b_mul, b_div, b_mod, b_pow, b_addT, b_addL, b_mulL, c_lt, c_le, c_gt, c_ge, c_eq, c_ne, c_eqs, c_nes, c_is, c_isnt, n_n, n_t, n_i, n_l, bl_b, int_i, f_len, f_lenT, f_min, f_max, f_abs, f_intB, f_int, f_tup, f_tupT, f_lst, f_lstT, f_sum, r_l0, r_l1, ints_map, c_neNil, c_ne00, sz0, pt0, pt1, pt2, if_true, if_false, ite_true, ite_false, if_false_right, if_false_left, decide_eq_true_eq, Bool.not_eq_true', Bool.not_true, Bool.not_false, decide_eq_false_iff_not, Bool.false_eq_true, reduceCtorEq, true_and, and_true, Int.reduceLT, Int.reduceLE, Int.reducePow, Int.reduceNeg, Int.reduceMul, Int.reduceAdd, Int.reduceSub, Int.reduceToNat, Int.reduceEq, na10, Nat.reducePow, Nat.reduceLT, Nat.reduceLeDiff, Nat.reduceAdd, Nat.reduceSub, true_or, or_true, and_self]
  unfold inB at q
  by_cases h1 : b.a ≤ x <;> by_cases h2 : x ≤ b.c <;> by_cases h3 : b.b ≤ y <;> by_cases h4 : y ≤ b.d <;> simp only [h1, h2, h3, h4, if_true, if_false, decide_true, decide_false, Bool.and_true, Bool.and_false, Bool.true_and, Bool.false_and] at q ⊢ <;> exact q
theorem in_ok (q : Q (.bl (inB b x y), S)) : Ok (callN prg (n + 1) 13 [b.t, .int x, .int y] S) Q := by
  refine Ok_call (f := ⟨3, 3, b13⟩) rfl rfl ?_
  unfold b13 Bx.t
  simp +decide only [Ok_cons, Ok_nil, SK_nx, SK_rt, FK_rt, FK_nx, evS, evE, evP, evEs, evQs, evPs, evO, evC, evI, Ok_bind, Ok_map, Ok_some, Ok_none, Ok_ite, getS, peekS, setS, wipeS, orc, permA, keyOf, List.map_cons, List.map_nil, List.cons_append, List.nil_append, List.append_nil, List.replicate, List.length_cons, List.length_nil, List.getElem?_cons_zero, List.getElem?_cons_succ, List.set_cons_zero, List.set_cons_succ, Option.map_some, Option.bind_some, asgT, asgTs, seqD, Ts.len, starD, List.take_succ_cons, List.take_zero, List.drop_succ_cons, List.drop_zero, List.take_nil, List.drop_nil, List.flatten_cons, List.flatten_nil, tp_n, tp_b, tp_i, tp_s, tp_t, tp_l, tp_d, tp_k, tp_c, tp_r0, tp_r1, ix_l, ix_t, ix_k, ix_d, ix_di, at0, at1, at2, at3, at4, at5, at6, at7, atm1, atm2, atm3, b_add, b_sub, b_mul, b_div, b_mod, b_pow, b_addT, b_addL, b_mulL, c_lt, c_le, c_gt, c_ge, c_eq, c_ne, c_eqs, c_nes, c_is, c_isnt, n_n, n_t, n_i, n_l, bl_b, int_i, f_len, f_lenT, f_min, f_max, f_abs, f_intB, f_int, f_tup, f_tupT, f_lst, f_lstT, f_sum, r_l0, r_l1, ints_map, c_neNil, c_ne00, sz0, pt0, pt1, pt2, if_true, if_false, ite_true, ite_false, if_false_right, if_false_left, decide_eq_true_eq, Bool.not_eq_true', Bool.not_true, Bool.not_false, decide_eq_false_iff_not, Bool.false_eq_true, reduceCtorEq, true_and, and_true, Int.reduceLT, Int.reduceLE, Int.reducePow, Int.reduceNeg, Int.reduceMul, Int.reduceAdd, Int.reduceSub, Int.reduceToNat, Int.reduceEq, na10, Nat.reducePow, Nat.reduceLT, Nat.reduceLeDiff, Nat.reduceAdd, Nat.reduceSub, true_or, or_true, and_self]
  unfold inB at q
  by_cases h1 : b.a ≤ x <;> by_cases h2 : x ≤ b.c <;> by_cases h3 : b.b ≤ y <;> by_cases h4 : y ≤ b.d <;> simp only [h1, h2, h3, h4, if_true, if_false, decide_true, decide_false, Bool.and_true, Bool.and_false, Bool.true_and, Bool.false_and] at q ⊢ <;> exact q
theorem last_step_ok (q : Q (.int (lastF t), S)) : Ok (callN prg (n + 1) 1 [t.t] S) Q := by
  refine Ok_call (f := ⟨1, 1, b1⟩) rfl rfl ?_
  unfold b1
  cases t <;> unfold Tk.t <;> simp +decide only [Ok_cons, Ok_nil, SK_nx, SK_rt, FK_rt, FK_nx, evS, evE, evP, evEs, evQs, evPs, evO, evC, evI, Ok_bind, Ok_map, Ok_some, Ok_none, Ok_ite, getS, peekS, setS, wipeS, orc, permA, keyOf, List.map_cons, List.map_nil, List.cons_append, List.nil_append, List.append_nil, List.replicate, List.length_cons, List.length_nil, List.getElem?_cons_zero, List.getElem?_cons_succ, List.set_cons_zero, List.set_cons_succ, Option.map_some, Option.bind_some, asgT, asgTs, seqD, Ts.len, starD, List.take_succ_cons, List.take_zero, List.drop_succ_cons, List.drop_zero, List.take_nil, List.drop_nil, List.flatten_cons, List.flatten_nil, tp_n, tp_b, tp_i, tp_s, tp_t, tp_l, tp_d, tp_k, tp_c, tp_r0, tp_r1, ix_l, ix_t, ix_k, ix_d, ix_di, at0, at1, at2, at3, at4, at5, at6, at7, atm1, atm2, atm3, b_add, b_sub, b_mul, b_div, b_mod, b_pow, b_addT, b_addL, b_mulL, c_lt, c_le, c_gt, c_ge, c_eq, c_ne, c_eqs, c_nes, c_is, c_isnt, n_n, n_t, n_i, n_l, bl_b, int_i, f_len, f_lenT, f_min, f_max, f_abs, f_intB, f_int, f_tup, f_tupT, f_lst, f_lstT, f_sum, r_l0, r_l1, ints_map, c_neNil, c_ne00, sz0, pt0, pt1, pt2, if_true, if_false, ite_true, ite_false, if_false_right, if_false_left, decide_eq_true_eq, Bool.not_eq_true', Bool.not_true, Bool.not_false, decide_eq_false_iff_not, Bool.false_eq_true, reduceCtorEq, true_and, and_true, Int.reduceLT, Int.reduceLE, Int.reducePow, Int.reduceNeg, Int.reduceMul, Int.reduceAdd, Int.reduceSub, Int.reduceToNat, Int.reduceEq, na10, Nat.reducePow, Nat.reduceLT, Nat.reduceLeDiff, Nat.reduceAdd, Nat.reduceSub, true_or, or_true, and_self] <;> first | exact q | exact Ok_is rfl (Ok_is rfl q)
theorem last_ok (q : Q (.int (lastF t), S)) : Ok (callN prg (n + 1) 12 [t.t] S) Q := by
  refine Ok_call (f := ⟨1, 1, b12⟩) rfl rfl ?_
  unfold b12
  cases t <;> unfold Tk.t <;> simp +decide only [Ok_cons, Ok_nil, SK_nx, SK_rt, FK_rt, FK_nx, evS, evE, evP, evEs, evQs, evPs, evO, evC, evI, Ok_bind, Ok_map, Ok_some, Ok_none, Ok_ite, getS, peekS, setS, wipeS, orc, permA, keyOf, List.map_cons, List.map_nil, List.cons_append, List.nil_append, List.append_nil, List.replicate, List.length_cons, List.length_nil, List.getElem?_cons_zero, List.getElem?_cons_succ, List.set_cons_zero, List.set_cons_succ, Option.map_some, Option.bind_some, asgT, asgTs, seqD, Ts.len, starD, List.take_succ_cons, List.take_zero, List.drop_succ_cons, List.drop_zero, List.take_nil, List.drop_nil, List.flatten_cons, List.flatten_nil, tp_n, tp_b, tp_i, tp_s, tp_t, tp_l, tp_d, tp_k, tp_c, tp_r0, tp_r1, ix_l, ix_t, ix_k, ix_d, ix_di, at0, at1, at2, at3, at4, at5, at6, at7, atm1, atm2, atm3, b_add, b_sub, b_mul, b_div, b_mod, b_pow, b_addT, b_addL, b_mulL, c_lt, c_le, c_gt, c_ge, c_eq, c_ne, c_eqs, c_nes, c_is, c_isnt, n_n, n_t, n_i, n_l, bl_b, int_i, f_len, f_lenT, f_min, f_max, f_abs, f_intB, f_int, f_tup, f_tupT, f_lst, f_lstT, f_sum, r_l0, r_l1, ints_map, c_neNil, c_ne00, sz0, pt0, pt1, pt2, if_true, if_false, ite_true, ite_false, if_false_right, if_false_left, decide_eq_true_eq, Bool.not_eq_true', Bool.not_true, Bool.not_false, decide_eq_false_iff_not, Bool.false_eq_true, reduceCtorEq, true_and, and_true, Int.reduceLT, Int.reduceLE, Int.reducePow, Int.reduceNeg, Int.reduceMul, Int.reduceAdd, Int.reduceSub, Int.reduceToNat, Int.reduceEq, na10, Nat.reducePow, Nat.reduceLT, Nat.reduceLeDiff, Nat.reduceAdd, Nat.reduceSub, true_or, or_true, and_self] <;> first | exact q | exact Ok_is rfl q
def boxF : Tk → Int → Bx
  | .no, _ => ⟨0, 0, 0, 0⟩
  | .look b _ _, _ => b
  | .bring b o _ _ _, s => if s = 1 then o else b
  | .over b _ _ _, _ => b
theorem box_for_ok (ht : t ≠ .no) (q : Q ((boxF t s).t, S)) : Ok (callN prg (n + 1) 2 [t.t, .int s] S) Q := by
  refine Ok_call (f := ⟨2, 2, b2⟩) rfl rfl ?_
  unfold b2
  cases t with
  | no => exact absurd rfl ht
  | look b f l => unfold Tk.t; simp +decide only [Ok_cons, Ok_nil, SK_nx, SK_rt, FK_rt, FK_nx, evS, evE, evP, evEs, evQs, evPs, evO, evC, evI, Ok_bind, Ok_map, Ok_some, Ok_none, Ok_ite, getS, peekS, setS, wipeS, orc, permA, keyOf, List.map_cons, List.map_nil, List.cons_append, List.nil_append, List.append_nil, List.replicate, List.length_cons, List.length_nil, List.getElem?_cons_zero, List.getElem?_cons_succ, List.set_cons_zero, List.set_cons_succ, Option.map_some, Option.bind_some, asgT, asgTs, seqD, Ts.len, starD, List.take_succ_cons, List.take_zero, List.drop_succ_cons, List.drop_zero, List.take_nil, List.drop_nil, List.flatten_cons, List.flatten_nil, tp_n, tp_b, tp_i, tp_s, tp_t, tp_l, tp_d, tp_k, tp_c, tp_r0, tp_r1, ix_l, ix_t, ix_k, ix_d, ix_di, at0, at1, at2, at3, at4, at5, at6, at7, atm1, atm2, atm3, b_add, b_sub, b_mul, b_div, b_mod, b_pow, b_addT, b_addL, b_mulL, c_lt, c_le, c_gt, c_ge, c_eq, c_ne, c_eqs, c_nes, c_is, c_isnt, n_n, n_t, n_i, n_l, bl_b, int_i, f_len, f_lenT, f_min, f_max, f_abs, f_intB, f_int, f_tup, f_tupT, f_lst, f_lstT, f_sum, r_l0, r_l1, ints_map, c_neNil, c_ne00, sz0, pt0, pt1, pt2, if_true, if_false, ite_true, ite_false, if_false_right, if_false_left, decide_eq_true_eq, Bool.not_eq_true', Bool.not_true, Bool.not_false, decide_eq_false_iff_not, Bool.false_eq_true, reduceCtorEq, true_and, and_true, Int.reduceLT, Int.reduceLE, Int.reducePow, Int.reduceNeg, Int.reduceMul, Int.reduceAdd, Int.reduceSub, Int.reduceToNat, Int.reduceEq, na10, Nat.reducePow, Nat.reduceLT, Nat.reduceLeDiff, Nat.reduceAdd, Nat.reduceSub, true_or, or_true, and_self]; exact q
  | over b n f l => unfold Tk.t; simp +decide only [Ok_cons, Ok_nil, SK_nx, SK_rt, FK_rt, FK_nx, evS, evE, evP, evEs, evQs, evPs, evO, evC, evI, Ok_bind, Ok_map, Ok_some, Ok_none, Ok_ite, getS, peekS, setS, wipeS, orc, permA, keyOf, List.map_cons, List.map_nil, List.cons_append, List.nil_append, List.append_nil, List.replicate, List.length_cons, List.length_nil, List.getElem?_cons_zero, List.getElem?_cons_succ, List.set_cons_zero, List.set_cons_succ, Option.map_some, Option.bind_some, asgT, asgTs, seqD, Ts.len, starD, List.take_succ_cons, List.take_zero, List.drop_succ_cons, List.drop_zero, List.take_nil, List.drop_nil, List.flatten_cons, List.flatten_nil, tp_n, tp_b, tp_i, tp_s, tp_t, tp_l, tp_d, tp_k, tp_c, tp_r0, tp_r1, ix_l, ix_t, ix_k, ix_d, ix_di, at0, at1, at2, at3, at4, at5, at6, at7, atm1, atm2, atm3, b_add, b_sub, b_mul, b_div, b_mod, b_pow, b_addT, b_addL, b_mulL, c_lt, c_le, c_gt, c_ge, c_eq, c_ne, c_eqs, c_nes, c_is, c_isnt, n_n, n_t, n_i, n_l, bl_b, int_i, f_len, f_lenT, f_min, f_max, f_abs, f_intB, f_int, f_tup, f_tupT, f_lst, f_lstT, f_sum, r_l0, r_l1, ints_map, c_neNil, c_ne00, sz0, pt0, pt1, pt2, if_true, if_false, ite_true, ite_false, if_false_right, if_false_left, decide_eq_true_eq, Bool.not_eq_true', Bool.not_true, Bool.not_false, decide_eq_false_iff_not, Bool.false_eq_true, reduceCtorEq, true_and, and_true, Int.reduceLT, Int.reduceLE, Int.reducePow, Int.reduceNeg, Int.reduceMul, Int.reduceAdd, Int.reduceSub, Int.reduceToNat, Int.reduceEq, na10, Nat.reducePow, Nat.reduceLT, Nat.reduceLeDiff, Nat.reduceAdd, Nat.reduceSub, true_or, or_true, and_self]; exact q
  | bring b o n f l =>
    unfold Tk.t
    simp +decide only [Ok_cons, Ok_nil, SK_nx, SK_rt, FK_rt, FK_nx, evS, evE, evP, evEs, evQs, evPs, evO, evC, evI, Ok_bind, Ok_map, Ok_some, Ok_none, Ok_ite, getS, peekS, setS, wipeS, orc, permA, keyOf, List.map_cons, List.map_nil, List.cons_append, List.nil_append, List.append_nil, List.replicate, List.length_cons, List.length_nil, List.getElem?_cons_zero, List.getElem?_cons_succ, List.set_cons_zero, List.set_cons_succ, Option.map_some, Option.bind_some, asgT, asgTs, seqD, Ts.len, starD, List.take_succ_cons, List.take_zero, List.drop_succ_cons, List.drop_zero, List.take_nil, List.drop_nil, List.flatten_cons, List.flatten_nil, tp_n, tp_b, tp_i, tp_s, tp_t, tp_l, tp_d, tp_k, tp_c, tp_r0, tp_r1, ix_l, ix_t, ix_k, ix_d, ix_di, at0, at1, at2, at3, at4, at5, at6, at7, atm1, atm2, atm3, b_add, b_sub, b_mul, b_div, b_mod, b_pow, b_addT, b_addL, b_mulL, c_lt, c_le, c_gt, c_ge, c_eq, c_ne, c_eqs, c_nes, c_is, c_isnt, n_n, n_t, n_i, n_l, bl_b, int_i, f_len, f_lenT, f_min, f_max, f_abs, f_intB, f_int, f_tup, f_tupT, f_lst, f_lstT, f_sum, r_l0, r_l1, ints_map, c_neNil, c_ne00, sz0, pt0, pt1, pt2, if_true, if_false, ite_true, ite_false, if_false_right, if_false_left, decide_eq_true_eq, Bool.not_eq_true', Bool.not_true, Bool.not_false, decide_eq_false_iff_not, Bool.false_eq_true, reduceCtorEq, true_and, and_true, Int.reduceLT, Int.reduceLE, Int.reducePow, Int.reduceNeg, Int.reduceMul, Int.reduceAdd, Int.reduceSub, Int.reduceToNat, Int.reduceEq, na10, Nat.reducePow, Nat.reduceLT, Nat.reduceLeDiff, Nat.reduceAdd, Nat.reduceSub, true_or, or_true, and_self]
    by_cases hs : s = 1 <;> simp only [boxF, hs, if_true, if_false] at q ⊢ <;> exact q
theorem load_ok (q : Q (.int (loadF t s), S)) : Ok (callN prg (n + 1) 4 [t.t, .int s] S) Q := by
  refine Ok_call (f := ⟨2, 2, b4⟩) rfl rfl ?_
  unfold b4
  cases t with
  | bring b o n f l =>
    unfold Tk.t
    simp +decide only [Ok_cons, Ok_nil, SK_nx, SK_rt, FK_rt, FK_nx, evS, evE, evP, evEs, evQs, evPs, evO, evC, evI, Ok_bind, Ok_map, Ok_some, Ok_none, Ok_ite, getS, peekS, setS, wipeS, orc, permA, keyOf, List.map_cons, List.map_nil, List.cons_append, List.nil_append, List.append_nil, List.replicate, List.length_cons, List.length_nil, List.getElem?_cons_zero, List.getElem?_cons_succ, List.set_cons_zero, List.set_cons_succ, Option.map_some, Option.bind_some, asgT, asgTs, seqD, Ts.len, starD, List.take_succ_cons, List.take_zero, List.drop_succ_cons, List.drop_zero, List.take_nil, List.drop_nil, List.flatten_cons, List.flatten_nil, tp_n, tp_b, tp_i, tp_s, tp_t, tp_l, tp_d, tp_k, tp_c, tp_r0, tp_r1, ix_l, ix_t, ix_k, ix_d, ix_di, at0, at1, at2, at3, at4, at5, at6, at7, atm1, atm2, atm3, b_add, b_sub, b_mul, b_div, b_mod, b_pow, b_addT, b_addL, b_mulL, c_lt, c_le, c_gt, c_ge, c_eq, c_ne, c_eqs, c_nes, c_is, c_isnt, n_n, n_t, n_i, n_l, bl_b, int_i, f_len, f_lenT, f_min, f_max, f_abs, f_intB, f_int, f_tup, f_tupT, f_lst, f_lstT, f_sum, r_l0, r_l1, ints_map, c_neNil, c_ne00, sz0, pt0, pt1, pt2, if_true, if_false, ite_true, ite_false, if_false_right, if_false_left, decide_eq_true_eq, Bool.not_eq_true', Bool.not_true, Bool.not_false, decide_eq_false_iff_not, Bool.false_eq_true, reduceCtorEq, true_and, and_true, Int.reduceLT, Int.reduceLE, Int.reducePow, Int.reduceNeg, Int.reduceMul, Int.reduceAdd, Int.reduceSub, Int.reduceToNat, Int.reduceEq, na10, Nat.reducePow, Nat.reduceLT, Nat.reduceLeDiff, Nat.reduceAdd, Nat.reduceSub, true_or, or_true, and_self]
    by_cases hs : s = 1 <;> simp only [loadF, hs, if_true, if_false, not_true, not_false_eq_true] at q ⊢ <;> exact q
  | _ => unfold Tk.t; simp +decide only [Ok_cons, Ok_nil, SK_nx, SK_rt, FK_rt, FK_nx, evS, evE, evP, evEs, evQs, evPs, evO, evC, evI, Ok_bind, Ok_map, Ok_some, Ok_none, Ok_ite, getS, peekS, setS, wipeS, orc, permA, keyOf, List.map_cons, List.map_nil, List.cons_append, List.nil_append, List.append_nil, List.replicate, List.length_cons, List.length_nil, List.getElem?_cons_zero, List.getElem?_cons_succ, List.set_cons_zero, List.set_cons_succ, Option.map_some, Option.bind_some, asgT, asgTs, seqD, Ts.len, starD, List.take_succ_cons, List.take_zero, List.drop_succ_cons, List.drop_zero, List.take_nil, List.drop_nil, List.flatten_cons, List.flatten_nil, tp_n, tp_b, tp_i, tp_s, tp_t, tp_l, tp_d, tp_k, tp_c, tp_r0, tp_r1, ix_l, ix_t, ix_k, ix_d, ix_di, at0, at1, at2, at3, at4, at5, at6, at7, atm1, atm2, atm3, b_add, b_sub, b_mul, b_div, b_mod, b_pow, b_addT, b_addL, b_mulL, c_lt, c_le, c_gt, c_ge, c_eq, c_ne, c_eqs, c_nes, c_is, c_isnt, n_n, n_t, n_i, n_l, bl_b, int_i, f_len, f_lenT, f_min, f_max, f_abs, f_intB, f_int, f_tup, f_tupT, f_lst, f_lstT, f_sum, r_l0, r_l1, ints_map, c_neNil, c_ne00, sz0, pt0, pt1, pt2, if_true, if_false, ite_true, ite_false, if_false_right, if_false_left, decide_eq_true_eq, Bool.not_eq_true', Bool.not_true, Bool.not_false, decide_eq_false_iff_not, Bool.false_eq_true, reduceCtorEq, true_and, and_true, Int.reduceLT, Int.reduceLE, Int.reducePow, Int.reduceNeg, Int.reduceMul, Int.reduceAdd, Int.reduceSub, Int.reduceToNat, Int.reduceEq, na10, Nat.reducePow, Nat.reduceLT, Nat.reduceLeDiff, Nat.reduceAdd, Nat.reduceSub, true_or, or_true, and_self]; exact q
theorem step_ok (q : Q (.int (stepF t s x y h), S)) : Ok (callN prg (n + 2) 3 [t.t, .int s, .int x, .int y, .int h] S) Q := by
  refine Ok_call (f := ⟨5, 8, b3⟩) rfl rfl ?_
  unfold b3
  cases t with
  | no => unfold Tk.t; simp +decide only [Ok_cons, Ok_nil, SK_nx, SK_rt, FK_rt, FK_nx, evS, evE, evP, evEs, evQs, evPs, evO, evC, evI, Ok_bind, Ok_map, Ok_some, Ok_none, Ok_ite, getS, peekS, setS, wipeS, orc, permA, keyOf, List.map_cons, List.map_nil, List.cons_append, List.nil_append, List.append_nil, List.replicate, List.length_cons, List.length_nil, List.getElem?_cons_zero, List.getElem?_cons_succ, List.set_cons_zero, List.set_cons_succ, Option.map_some, Option.bind_some, asgT, asgTs, seqD, Ts.len, starD, List.take_succ_cons, List.take_zero, List.drop_succ_cons, List.drop_zero, List.take_nil, List.drop_nil, List.flatten_cons, List.flatten_nil, tp_n, tp_b, tp_i, tp_s, tp_t, tp_l, tp_d, tp_k, tp_c, tp_r0, tp_r1, ix_l, ix_t, ix_k, ix_d, ix_di, at0, at1, at2, at3, at4, at5, at6, at7, atm1, atm2, atm3, b_add, b_sub, b_mul, b_div, b_mod, b_pow, b_addT, b_addL, b_mulL, c_lt, c_le, c_gt, c_ge, c_eq, c_ne, c_eqs, c_nes, c_is, c_isnt, n_n, n_t, n_i, n_l, bl_b, int_i, f_len, f_lenT, f_min, f_max, f_abs, f_intB, f_int, f_tup, f_tupT, f_lst, f_lstT, f_sum, r_l0, r_l1, ints_map, c_neNil, c_ne00, sz0, pt0, pt1, pt2, if_true, if_false, ite_true, ite_false, if_false_right, if_false_left, decide_eq_true_eq, Bool.not_eq_true', Bool.not_true, Bool.not_false, decide_eq_false_iff_not, Bool.false_eq_true, reduceCtorEq, true_and, and_true, Int.reduceLT, Int.reduceLE, Int.reducePow, Int.reduceNeg, Int.reduceMul, Int.reduceAdd, Int.reduceSub, Int.reduceToNat, Int.reduceEq, na10, Nat.reducePow, Nat.reduceLT, Nat.reduceLeDiff, Nat.reduceAdd, Nat.reduceSub, true_or, or_true, and_self]; exact q
  | look b f l =>
    unfold Tk.t
    simp +decide only [Ok_cons, Ok_nil, SK_nx, SK_rt, FK_rt, FK_nx, evS, evE, evP, evEs, evQs, evPs, evO, evC, evI, Ok_bind, Ok_map, Ok_some, Ok_none, Ok_ite, getS, peekS, setS, wipeS, orc, permA, keyOf, List.map_cons, List.map_nil, List.cons_append, List.nil_append, List.append_nil, List.replicate, List.length_cons, List.length_nil, List.getElem?_cons_zero, List.getElem?_cons_succ, List.set_cons_zero, List.set_cons_succ, Option.map_some, Option.bind_some, asgT, asgTs, seqD, Ts.len, starD, List.take_succ_cons, List.take_zero, List.drop_succ_cons, List.drop_zero, List.take_nil, List.drop_nil, List.flatten_cons, List.flatten_nil, tp_n, tp_b, tp_i, tp_s, tp_t, tp_l, tp_d, tp_k, tp_c, tp_r0, tp_r1, ix_l, ix_t, ix_k, ix_d, ix_di, at0, at1, at2, at3, at4, at5, at6, at7, atm1, atm2, atm3, b_add, b_sub, b_mul, b_div, b_mod, b_pow, b_addT, b_addL, b_mulL, c_lt, c_le, c_gt, c_ge, c_eq, c_ne, c_eqs, c_nes, c_is, c_isnt, n_n, n_t, n_i, n_l, bl_b, int_i, f_len, f_lenT, f_min, f_max, f_abs, f_intB, f_int, f_tup, f_tupT, f_lst, f_lstT, f_sum, r_l0, r_l1, ints_map, c_neNil, c_ne00, sz0, pt0, pt1, pt2, if_true, if_false, ite_true, ite_false, if_false_right, if_false_left, decide_eq_true_eq, Bool.not_eq_true', Bool.not_true, Bool.not_false, decide_eq_false_iff_not, Bool.false_eq_true, reduceCtorEq, true_and, and_true, Int.reduceLT, Int.reduceLE, Int.reducePow, Int.reduceNeg, Int.reduceMul, Int.reduceAdd, Int.reduceSub, Int.reduceToNat, Int.reduceEq, na10, Nat.reducePow, Nat.reduceLT, Nat.reduceLeDiff, Nat.reduceAdd, Nat.reduceSub, true_or, or_true, and_self]
    refine last_step_ok (t := .look b f l) ?_
    simp +decide only [Ok_cons, Ok_nil, SK_nx, SK_rt, FK_rt, FK_nx, evS, evE, evP, evEs, evQs, evPs, evO, evC, evI, Ok_bind, Ok_map, Ok_some, Ok_none, Ok_ite, getS, peekS, setS, wipeS, orc, permA, keyOf, List.map_cons, List.map_nil, List.cons_append, List.nil_append, List.append_nil, List.replicate, List.length_cons, List.length_nil, List.getElem?_cons_zero, List.getElem?_cons_succ, List.set_cons_zero, List.set_cons_succ, Option.map_some, Option.bind_some, asgT, asgTs, seqD, Ts.len, starD, List.take_succ_cons, List.take_zero, List.drop_succ_cons, List.drop_zero, List.take_nil, List.drop_nil, List.flatten_cons, List.flatten_nil, tp_n, tp_b, tp_i, tp_s, tp_t, tp_l, tp_d, tp_k, tp_c, tp_r0, tp_r1, ix_l, ix_t, ix_k, ix_d, ix_di, at0, at1, at2, at3, at4, at5, at6, at7, atm1, atm2, atm3, b_add, b_sub, b_mul, b_div, b_mod, b_pow, b_addT, b_addL, b_mulL, c_lt, c_le, c_gt, c_ge, c_eq, c_ne, c_eqs, c_nes, c_is, c_isnt, n_n, n_t, n_i, n_l, bl_b, int_i, f_len, f_lenT, f_min, f_max, f_abs, f_intB, f_int, f_tup, f_tupT, f_lst, f_lstT, f_sum, r_l0, r_l1, ints_map, c_neNil, c_ne00, sz0, pt0, pt1, pt2, if_true, if_false, ite_true, ite_false, if_false_right, if_false_left, decide_eq_true_eq, Bool.not_eq_true', Bool.not_true, Bool.not_false, decide_eq_false_iff_not, Bool.false_eq_true, reduceCtorEq, true_and, and_true, Int.reduceLT, Int.reduceLE, Int.reducePow, Int.reduceNeg, Int.reduceMul, Int.reduceAdd, Int.reduceSub, Int.reduceToNat, Int.reduceEq, na10, Nat.reducePow, Nat.reduceLT, Nat.reduceLeDiff, Nat.reduceAdd, Nat.reduceSub, true_or, or_true, and_self, lastF]
    simp only [stepF] at q
    by_cases h1 : s = 1
    · rw [if_pos h1] at q ⊢; exact q
    · rw [if_neg h1] at q ⊢
      by_cases h2 : f ≤ h
      · by_cases h3 : h ≤ l
        · rw [if_pos h2, if_pos h3]
          refine box_for_ok (t := .look b f l) (by intro z; cases z) (has_ok ?_)
          simp only [Ok_cons, Ok_nil, SK_nx, SK_rt, FK_rt, FK_nx, evS, evE, evP, evEs, evQs, evPs, evO, evC, evI, Ok_bind, Ok_map, Ok_some, Ok_none, Ok_ite, getS, peekS, setS, wipeS, orc, permA, keyOf, List.map_cons, List.map_nil, List.cons_append, List.nil_append, List.append_nil, List.replicate, List.length_cons, List.length_nil, List.getElem?_cons_zero, List.getElem?_cons_succ, List.set_cons_zero, List.set_cons_succ, Option.map_some, Option.bind_some, asgT, asgTs, seqD, Ts.len, starD, List.take_succ_cons, List.take_zero, List.drop_succ_cons, List.drop_zero, List.take_nil, List.drop_nil, List.flatten_cons, List.flatten_nil, tp_n, tp_b, tp_i, tp_s, tp_t, tp_l, tp_d, tp_k, tp_c, tp_r0, tp_r1, ix_l, ix_t, ix_k, ix_d, ix_di, at0, at1, at2, at3, at4, at5, at6, at7, atm1, atm2, atm3, b_add, b_sub, b_mul, b_div, b_mod, b_pow, b_addT, b_addL, b_mulL, c_lt, c_le, c_gt, c_ge, c_eq, c_ne, c_eqs, c_nes, c_is, c_isnt, n_n, n_t, n_i, n_l, bl_b, int_i, f_len, f_lenT, f_min, f_max, f_abs, f_intB, f_int, f_tup, f_tupT, f_lst, f_lstT, f_sum, r_l0, r_l1, ints_map, c_neNil, c_ne00, sz0, pt0, pt1, pt2, if_true, if_false, ite_true, ite_false, if_false_right, if_false_left, decide_eq_true_eq, Bool.not_eq_true', Bool.not_true, Bool.not_false, decide_eq_false_iff_not, Bool.false_eq_true, reduceCtorEq, true_and, and_true, Int.reduceLT, Int.reduceLE, Int.reducePow, Int.reduceNeg, Int.reduceMul, Int.reduceAdd, Int.reduceSub, Int.reduceToNat, Int.reduceEq, na10, Nat.reducePow, Nat.reduceLT, Nat.reduceLeDiff, Nat.reduceAdd, Nat.reduceSub, true_or, or_true, and_self]
          by_cases h4 : inB (boxF (.look b f l) s) x y = true
          · rw [if_pos ⟨h2, h3, h4⟩] at q; rw [if_pos h4]; exact q
          · rw [if_neg fun z => h4 z.2.2] at q; rw [if_neg h4]; exact q
        · rw [if_neg fun z => h3 z.2.1] at q; rw [if_pos h2, if_neg h3]; exact q
      · rw [if_neg fun z => h2 z.1] at q; rw [if_neg h2]; exact q
  | bring b o n f l =>
    unfold Tk.t
    simp +decide only [Ok_cons, Ok_nil, SK_nx, SK_rt, FK_rt, FK_nx, evS, evE, evP, evEs, evQs, evPs, evO, evC, evI, Ok_bind, Ok_map, Ok_some, Ok_none, Ok_ite, getS, peekS, setS, wipeS, orc, permA, keyOf, List.map_cons, List.map_nil, List.cons_append, List.nil_append, List.append_nil, List.replicate, List.length_cons, List.length_nil, List.getElem?_cons_zero, List.getElem?_cons_succ, List.set_cons_zero, List.set_cons_succ, Option.map_some, Option.bind_some, asgT, asgTs, seqD, Ts.len, starD, List.take_succ_cons, List.take_zero, List.drop_succ_cons, List.drop_zero, List.take_nil, List.drop_nil, List.flatten_cons, List.flatten_nil, tp_n, tp_b, tp_i, tp_s, tp_t, tp_l, tp_d, tp_k, tp_c, tp_r0, tp_r1, ix_l, ix_t, ix_k, ix_d, ix_di, at0, at1, at2, at3, at4, at5, at6, at7, atm1, atm2, atm3, b_add, b_sub, b_mul, b_div, b_mod, b_pow, b_addT, b_addL, b_mulL, c_lt, c_le, c_gt, c_ge, c_eq, c_ne, c_eqs, c_nes, c_is, c_isnt, n_n, n_t, n_i, n_l, bl_b, int_i, f_len, f_lenT, f_min, f_max, f_abs, f_intB, f_int, f_tup, f_tupT, f_lst, f_lstT, f_sum, r_l0, r_l1, ints_map, c_neNil, c_ne00, sz0, pt0, pt1, pt2, if_true, if_false, ite_true, ite_false, if_false_right, if_false_left, decide_eq_true_eq, Bool.not_eq_true', Bool.not_true, Bool.not_false, decide_eq_false_iff_not, Bool.false_eq_true, reduceCtorEq, true_and, and_true, Int.reduceLT, Int.reduceLE, Int.reducePow, Int.reduceNeg, Int.reduceMul, Int.reduceAdd, Int.reduceSub, Int.reduceToNat, Int.reduceEq, na10, Nat.reducePow, Nat.reduceLT, Nat.reduceLeDiff, Nat.reduceAdd, Nat.reduceSub, true_or, or_true, and_self]
    refine last_step_ok (t := .bring b o n f l) ?_
    simp +decide only [Ok_cons, Ok_nil, SK_nx, SK_rt, FK_rt, FK_nx, evS, evE, evP, evEs, evQs, evPs, evO, evC, evI, Ok_bind, Ok_map, Ok_some, Ok_none, Ok_ite, getS, peekS, setS, wipeS, orc, permA, keyOf, List.map_cons, List.map_nil, List.cons_append, List.nil_append, List.append_nil, List.replicate, List.length_cons, List.length_nil, List.getElem?_cons_zero, List.getElem?_cons_succ, List.set_cons_zero, List.set_cons_succ, Option.map_some, Option.bind_some, asgT, asgTs, seqD, Ts.len, starD, List.take_succ_cons, List.take_zero, List.drop_succ_cons, List.drop_zero, List.take_nil, List.drop_nil, List.flatten_cons, List.flatten_nil, tp_n, tp_b, tp_i, tp_s, tp_t, tp_l, tp_d, tp_k, tp_c, tp_r0, tp_r1, ix_l, ix_t, ix_k, ix_d, ix_di, at0, at1, at2, at3, at4, at5, at6, at7, atm1, atm2, atm3, b_add, b_sub, b_mul, b_div, b_mod, b_pow, b_addT, b_addL, b_mulL, c_lt, c_le, c_gt, c_ge, c_eq, c_ne, c_eqs, c_nes, c_is, c_isnt, n_n, n_t, n_i, n_l, bl_b, int_i, f_len, f_lenT, f_min, f_max, f_abs, f_intB, f_int, f_tup, f_tupT, f_lst, f_lstT, f_sum, r_l0, r_l1, ints_map, c_neNil, c_ne00, sz0, pt0, pt1, pt2, if_true, if_false, ite_true, ite_false, if_false_right, if_false_left, decide_eq_true_eq, Bool.not_eq_true', Bool.not_true, Bool.not_false, decide_eq_false_iff_not, Bool.false_eq_true, reduceCtorEq, true_and, and_true, Int.reduceLT, Int.reduceLE, Int.reducePow, Int.reduceNeg, Int.reduceMul, Int.reduceAdd, Int.reduceSub, Int.reduceToNat, Int.reduceEq, na10, Nat.reducePow, Nat.reduceLT, Nat.reduceLeDiff, Nat.reduceAdd, Nat.reduceSub, true_or, or_true, and_self, lastF]
    simp only [stepF] at q
    by_cases h1 : s = 2
    · rw [if_pos h1] at q ⊢; exact q
    · rw [if_neg h1] at q ⊢
      by_cases h2 : f ≤ h
      · by_cases h3 : h ≤ l
        · rw [if_pos h2, if_pos h3]
          refine box_for_ok (t := .bring b o n f l) (by intro z; cases z) (has_ok ?_)
          simp only [Ok_cons, Ok_nil, SK_nx, SK_rt, FK_rt, FK_nx, evS, evE, evP, evEs, evQs, evPs, evO, evC, evI, Ok_bind, Ok_map, Ok_some, Ok_none, Ok_ite, getS, peekS, setS, wipeS, orc, permA, keyOf, List.map_cons, List.map_nil, List.cons_append, List.nil_append, List.append_nil, List.replicate, List.length_cons, List.length_nil, List.getElem?_cons_zero, List.getElem?_cons_succ, List.set_cons_zero, List.set_cons_succ, Option.map_some, Option.bind_some, asgT, asgTs, seqD, Ts.len, starD, List.take_succ_cons, List.take_zero, List.drop_succ_cons, List.drop_zero, List.take_nil, List.drop_nil, List.flatten_cons, List.flatten_nil, tp_n, tp_b, tp_i, tp_s, tp_t, tp_l, tp_d, tp_k, tp_c, tp_r0, tp_r1, ix_l, ix_t, ix_k, ix_d, ix_di, at0, at1, at2, at3, at4, at5, at6, at7, atm1, atm2, atm3, b_add, b_sub, b_mul, b_div, b_mod, b_pow, b_addT, b_addL, b_mulL, c_lt, c_le, c_gt, c_ge, c_eq, c_ne, c_eqs, c_nes, c_is, c_isnt, n_n, n_t, n_i, n_l, bl_b, int_i, f_len, f_lenT, f_min, f_max, f_abs, f_intB, f_int, f_tup, f_tupT, f_lst, f_lstT, f_sum, r_l0, r_l1, ints_map, c_neNil, c_ne00, sz0, pt0, pt1, pt2, if_true, if_false, ite_true, ite_false, if_false_right, if_false_left, decide_eq_true_eq, Bool.not_eq_true', Bool.not_true, Bool.not_false, decide_eq_false_iff_not, Bool.false_eq_true, reduceCtorEq, true_and, and_true, Int.reduceLT, Int.reduceLE, Int.reducePow, Int.reduceNeg, Int.reduceMul, Int.reduceAdd, Int.reduceSub, Int.reduceToNat, Int.reduceEq, na10, Nat.reducePow, Nat.reduceLT, Nat.reduceLeDiff, Nat.reduceAdd, Nat.reduceSub, true_or, or_true, and_self]
          by_cases h4 : inB (boxF (.bring b o n f l) s) x y = true
          · rw [if_pos ⟨h2, h3, h4⟩] at q; rw [if_pos h4]; exact q
          · rw [if_neg fun z => h4 z.2.2] at q; rw [if_neg h4]; exact q
        · rw [if_neg fun z => h3 z.2.1] at q; rw [if_pos h2, if_neg h3]; exact q
      · rw [if_neg fun z => h2 z.1] at q; rw [if_neg h2]; exact q
  | over b n f l =>
    unfold Tk.t
    simp +decide only [Ok_cons, Ok_nil, SK_nx, SK_rt, FK_rt, FK_nx, evS, evE, evP, evEs, evQs, evPs, evO, evC, evI, Ok_bind, Ok_map, Ok_some, Ok_none, Ok_ite, getS, peekS, setS, wipeS, orc, permA, keyOf, List.map_cons, List.map_nil, List.cons_append, List.nil_append, List.append_nil, List.replicate, List.length_cons, List.length_nil, List.getElem?_cons_zero, List.getElem?_cons_succ, List.set_cons_zero, List.set_cons_succ, Option.map_some, Option.bind_some, asgT, asgTs, seqD, Ts.len, starD, List.take_succ_cons, List.take_zero, List.drop_succ_cons, List.drop_zero, List.take_nil, List.drop_nil, List.flatten_cons, List.flatten_nil, tp_n, tp_b, tp_i, tp_s, tp_t, tp_l, tp_d, tp_k, tp_c, tp_r0, tp_r1, ix_l, ix_t, ix_k, ix_d, ix_di, at0, at1, at2, at3, at4, at5, at6, at7, atm1, atm2, atm3, b_add, b_sub, b_mul, b_div, b_mod, b_pow, b_addT, b_addL, b_mulL, c_lt, c_le, c_gt, c_ge, c_eq, c_ne, c_eqs, c_nes, c_is, c_isnt, n_n, n_t, n_i, n_l, bl_b, int_i, f_len, f_lenT, f_min, f_max, f_abs, f_intB, f_int, f_tup, f_tupT, f_lst, f_lstT, f_sum, r_l0, r_l1, ints_map, c_neNil, c_ne00, sz0, pt0, pt1, pt2, if_true, if_false, ite_true, ite_false, if_false_right, if_false_left, decide_eq_true_eq, Bool.not_eq_true', Bool.not_true, Bool.not_false, decide_eq_false_iff_not, Bool.false_eq_true, reduceCtorEq, true_and, and_true, Int.reduceLT, Int.reduceLE, Int.reducePow, Int.reduceNeg, Int.reduceMul, Int.reduceAdd, Int.reduceSub, Int.reduceToNat, Int.reduceEq, na10, Nat.reducePow, Nat.reduceLT, Nat.reduceLeDiff, Nat.reduceAdd, Nat.reduceSub, true_or, or_true, and_self]
    refine last_step_ok (t := .over b n f l) ?_
    simp +decide only [Ok_cons, Ok_nil, SK_nx, SK_rt, FK_rt, FK_nx, evS, evE, evP, evEs, evQs, evPs, evO, evC, evI, Ok_bind, Ok_map, Ok_some, Ok_none, Ok_ite, getS, peekS, setS, wipeS, orc, permA, keyOf, List.map_cons, List.map_nil, List.cons_append, List.nil_append, List.append_nil, List.replicate, List.length_cons, List.length_nil, List.getElem?_cons_zero, List.getElem?_cons_succ, List.set_cons_zero, List.set_cons_succ, Option.map_some, Option.bind_some, asgT, asgTs, seqD, Ts.len, starD, List.take_succ_cons, List.take_zero, List.drop_succ_cons, List.drop_zero, List.take_nil, List.drop_nil, List.flatten_cons, List.flatten_nil, tp_n, tp_b, tp_i, tp_s, tp_t, tp_l, tp_d, tp_k, tp_c, tp_r0, tp_r1, ix_l, ix_t, ix_k, ix_d, ix_di, at0, at1, at2, at3, at4, at5, at6, at7, atm1, atm2, atm3, b_add, b_sub, b_mul, b_div, b_mod, b_pow, b_addT, b_addL, b_mulL, c_lt, c_le, c_gt, c_ge, c_eq, c_ne, c_eqs, c_nes, c_is, c_isnt, n_n, n_t, n_i, n_l, bl_b, int_i, f_len, f_lenT, f_min, f_max, f_abs, f_intB, f_int, f_tup, f_tupT, f_lst, f_lstT, f_sum, r_l0, r_l1, ints_map, c_neNil, c_ne00, sz0, pt0, pt1, pt2, if_true, if_false, ite_true, ite_false, if_false_right, if_false_left, decide_eq_true_eq, Bool.not_eq_true', Bool.not_true, Bool.not_false, decide_eq_false_iff_not, Bool.false_eq_true, reduceCtorEq, true_and, and_true, Int.reduceLT, Int.reduceLE, Int.reducePow, Int.reduceNeg, Int.reduceMul, Int.reduceAdd, Int.reduceSub, Int.reduceToNat, Int.reduceEq, na10, Nat.reducePow, Nat.reduceLT, Nat.reduceLeDiff, Nat.reduceAdd, Nat.reduceSub, true_or, or_true, and_self, lastF]
    simp only [stepF] at q
    by_cases h1 : s = n
    · rw [if_pos h1] at q ⊢; exact q
    · rw [if_neg h1] at q ⊢
      by_cases h2 : f ≤ h
      · by_cases h3 : h ≤ l
        · rw [if_pos h2, if_pos h3]
          refine box_for_ok (t := .over b n f l) (by intro z; cases z) (has_ok ?_)
          simp only [Ok_cons, Ok_nil, SK_nx, SK_rt, FK_rt, FK_nx, evS, evE, evP, evEs, evQs, evPs, evO, evC, evI, Ok_bind, Ok_map, Ok_some, Ok_none, Ok_ite, getS, peekS, setS, wipeS, orc, permA, keyOf, List.map_cons, List.map_nil, List.cons_append, List.nil_append, List.append_nil, List.replicate, List.length_cons, List.length_nil, List.getElem?_cons_zero, List.getElem?_cons_succ, List.set_cons_zero, List.set_cons_succ, Option.map_some, Option.bind_some, asgT, asgTs, seqD, Ts.len, starD, List.take_succ_cons, List.take_zero, List.drop_succ_cons, List.drop_zero, List.take_nil, List.drop_nil, List.flatten_cons, List.flatten_nil, tp_n, tp_b, tp_i, tp_s, tp_t, tp_l, tp_d, tp_k, tp_c, tp_r0, tp_r1, ix_l, ix_t, ix_k, ix_d, ix_di, at0, at1, at2, at3, at4, at5, at6, at7, atm1, atm2, atm3, b_add, b_sub, b_mul, b_div, b_mod, b_pow, b_addT, b_addL, b_mulL, c_lt, c_le, c_gt, c_ge, c_eq, c_ne, c_eqs, c_nes, c_is, c_isnt, n_n, n_t, n_i, n_l, bl_b, int_i, f_len, f_lenT, f_min, f_max, f_abs, f_intB, f_int, f_tup, f_tupT, f_lst, f_lstT, f_sum, r_l0, r_l1, ints_map, c_neNil, c_ne00, sz0, pt0, pt1, pt2, if_true, if_false, ite_true, ite_false, if_false_right, if_false_left, decide_eq_true_eq, Bool.not_eq_true', Bool.not_true, Bool.not_false, decide_eq_false_iff_not, Bool.false_eq_true, reduceCtorEq, true_and, and_true, Int.reduceLT, Int.reduceLE, Int.reducePow, Int.reduceNeg, Int.reduceMul, Int.reduceAdd, Int.reduceSub, Int.reduceToNat, Int.reduceEq, na10, Nat.reducePow, Nat.reduceLT, Nat.reduceLeDiff, Nat.reduceAdd, Nat.reduceSub, true_or, or_true, and_self]
          by_cases h4 : inB (boxF (.over b n f l) s) x y = true
          · rw [if_pos ⟨h2, h3, h4⟩] at q; rw [if_pos h4]; exact q
          · rw [if_neg fun z => h4 z.2.2] at q; rw [if_neg h4]; exact q
        · rw [if_neg fun z => h3 z.2.1] at q; rw [if_pos h2, if_neg h3]; exact q
      · rw [if_neg fun z => h2 z.1] at q; rw [if_neg h2]; exact q
theorem becomes_ok (q : Q (.int (stepF t s x y h), S)) : Ok (callN prg (n + 2) 14 [t.t, .int s, .int x, .int y, .int h] S) Q := by
  refine Ok_call (f := ⟨5, 7, b14⟩) rfl rfl ?_
  unfold b14
  cases t with
  | no => unfold Tk.t; simp +decide only [Ok_cons, Ok_nil, SK_nx, SK_rt, FK_rt, FK_nx, evS, evE, evP, evEs, evQs, evPs, evO, evC, evI, Ok_bind, Ok_map, Ok_some, Ok_none, Ok_ite, getS, peekS, setS, wipeS, orc, permA, keyOf, List.map_cons, List.map_nil, List.cons_append, List.nil_append, List.append_nil, List.replicate, List.length_cons, List.length_nil, List.getElem?_cons_zero, List.getElem?_cons_succ, List.set_cons_zero, List.set_cons_succ, Option.map_some, Option.bind_some, asgT, asgTs, seqD, Ts.len, starD, List.take_succ_cons, List.take_zero, List.drop_succ_cons, List.drop_zero, List.take_nil, List.drop_nil, List.flatten_cons, List.flatten_nil, tp_n, tp_b, tp_i, tp_s, tp_t, tp_l, tp_d, tp_k, tp_c, tp_r0, tp_r1, ix_l, ix_t, ix_k, ix_d, ix_di, at0, at1, at2, at3, at4, at5, at6, at7, atm1, atm2, atm3, b_add, b_sub, b_mul, b_div, b_mod, b_pow, b_addT, b_addL, b_mulL, c_lt, c_le, c_gt, c_ge, c_eq, c_ne, c_eqs, c_nes, c_is, c_isnt, n_n, n_t, n_i, n_l, bl_b, int_i, f_len, f_lenT, f_min, f_max, f_abs, f_intB, f_int, f_tup, f_tupT, f_lst, f_lstT, f_sum, r_l0, r_l1, ints_map, c_neNil, c_ne00, sz0, pt0, pt1, pt2, if_true, if_false, ite_true, ite_false, if_false_right, if_false_left, decide_eq_true_eq, Bool.not_eq_true', Bool.not_true, Bool.not_false, decide_eq_false_iff_not, Bool.false_eq_true, reduceCtorEq, true_and, and_true, Int.reduceLT, Int.reduceLE, Int.reducePow, Int.reduceNeg, Int.reduceMul, Int.reduceAdd, Int.reduceSub, Int.reduceToNat, Int.reduceEq, na10, Nat.reducePow, Nat.reduceLT, Nat.reduceLeDiff, Nat.reduceAdd, Nat.reduceSub, true_or, or_true, and_self]; exact q
  | look b f l =>
    unfold Tk.t
    simp +decide only [Ok_cons, Ok_nil, SK_nx, SK_rt, FK_rt, FK_nx, evS, evE, evP, evEs, evQs, evPs, evO, evC, evI, Ok_bind, Ok_map, Ok_some, Ok_none, Ok_ite, getS, peekS, setS, wipeS, orc, permA, keyOf, List.map_cons, List.map_nil, List.cons_append, List.nil_append, List.append_nil, List.replicate, List.length_cons, List.length_nil, List.getElem?_cons_zero, List.getElem?_cons_succ, List.set_cons_zero, List.set_cons_succ, Option.map_some, Option.bind_some, asgT, asgTs, seqD, Ts.len, starD, List.take_succ_cons, List.take_zero, List.drop_succ_cons, List.drop_zero, List.take_nil, List.drop_nil, List.flatten_cons, List.flatten_nil, tp_n, tp_b, tp_i, tp_s, tp_t, tp_l, tp_d, tp_k, tp_c, tp_r0, tp_r1, ix_l, ix_t, ix_k, ix_d, ix_di, at0, at1, at2, at3, at4, at5, at6, at7, atm1, atm2, atm3, b_add, b_sub, b_mul, b_div, b_mod, b_pow, b_addT, b_addL, b_mulL, c_lt, c_le, c_gt, c_ge, c_eq, c_ne, c_eqs, c_nes, c_is, c_isnt, n_n, n_t, n_i, n_l, bl_b, int_i, f_len, f_lenT, f_min, f_max, f_abs, f_intB, f_int, f_tup, f_tupT, f_lst, f_lstT, f_sum, r_l0, r_l1, ints_map, c_neNil, c_ne00, sz0, pt0, pt1, pt2, if_true, if_false, ite_true, ite_false, if_false_right, if_false_left, decide_eq_true_eq, Bool.not_eq_true', Bool.not_true, Bool.not_false, decide_eq_false_iff_not, Bool.false_eq_true, reduceCtorEq, true_and, and_true, Int.reduceLT, Int.reduceLE, Int.reducePow, Int.reduceNeg, Int.reduceMul, Int.reduceAdd, Int.reduceSub, Int.reduceToNat, Int.reduceEq, na10, Nat.reducePow, Nat.reduceLT, Nat.reduceLeDiff, Nat.reduceAdd, Nat.reduceSub, true_or, or_true, and_self]
    refine last_ok (t := .look b f l) ?_
    simp +decide only [Ok_cons, Ok_nil, SK_nx, SK_rt, FK_rt, FK_nx, evS, evE, evP, evEs, evQs, evPs, evO, evC, evI, Ok_bind, Ok_map, Ok_some, Ok_none, Ok_ite, getS, peekS, setS, wipeS, orc, permA, keyOf, List.map_cons, List.map_nil, List.cons_append, List.nil_append, List.append_nil, List.replicate, List.length_cons, List.length_nil, List.getElem?_cons_zero, List.getElem?_cons_succ, List.set_cons_zero, List.set_cons_succ, Option.map_some, Option.bind_some, asgT, asgTs, seqD, Ts.len, starD, List.take_succ_cons, List.take_zero, List.drop_succ_cons, List.drop_zero, List.take_nil, List.drop_nil, List.flatten_cons, List.flatten_nil, tp_n, tp_b, tp_i, tp_s, tp_t, tp_l, tp_d, tp_k, tp_c, tp_r0, tp_r1, ix_l, ix_t, ix_k, ix_d, ix_di, at0, at1, at2, at3, at4, at5, at6, at7, atm1, atm2, atm3, b_add, b_sub, b_mul, b_div, b_mod, b_pow, b_addT, b_addL, b_mulL, c_lt, c_le, c_gt, c_ge, c_eq, c_ne, c_eqs, c_nes, c_is, c_isnt, n_n, n_t, n_i, n_l, bl_b, int_i, f_len, f_lenT, f_min, f_max, f_abs, f_intB, f_int, f_tup, f_tupT, f_lst, f_lstT, f_sum, r_l0, r_l1, ints_map, c_neNil, c_ne00, sz0, pt0, pt1, pt2, if_true, if_false, ite_true, ite_false, if_false_right, if_false_left, decide_eq_true_eq, Bool.not_eq_true', Bool.not_true, Bool.not_false, decide_eq_false_iff_not, Bool.false_eq_true, reduceCtorEq, true_and, and_true, Int.reduceLT, Int.reduceLE, Int.reducePow, Int.reduceNeg, Int.reduceMul, Int.reduceAdd, Int.reduceSub, Int.reduceToNat, Int.reduceEq, na10, Nat.reducePow, Nat.reduceLT, Nat.reduceLeDiff, Nat.reduceAdd, Nat.reduceSub, true_or, or_true, and_self, lastF]
    simp only [stepF] at q
    by_cases h1 : s = 1
    · rw [if_pos h1] at q ⊢; exact q
    · rw [if_neg h1] at q ⊢
      by_cases h2 : f ≤ h <;> by_cases h3 : h ≤ l
      all_goals simp +decide only [Ok_cons, Ok_nil, SK_nx, SK_rt, FK_rt, FK_nx, evS, evE, evP, evEs, evQs, evPs, evO, evC, evI, Ok_bind, Ok_map, Ok_some, Ok_none, Ok_ite, getS, peekS, setS, wipeS, orc, permA, keyOf, List.map_cons, List.map_nil, List.cons_append, List.nil_append, List.append_nil, List.replicate, List.length_cons, List.length_nil, List.getElem?_cons_zero, List.getElem?_cons_succ, List.set_cons_zero, List.set_cons_succ, Option.map_some, Option.bind_some, asgT, asgTs, seqD, Ts.len, starD, List.take_succ_cons, List.take_zero, List.drop_succ_cons, List.drop_zero, List.take_nil, List.drop_nil, List.flatten_cons, List.flatten_nil, tp_n, tp_b, tp_i, tp_s, tp_t, tp_l, tp_d, tp_k, tp_c, tp_r0, tp_r1, ix_l, ix_t, ix_k, ix_d, ix_di, at0, at1, at2, at3, at4, at5, at6, at7, atm1, atm2, atm3, b_add, b_sub, b_mul, b_div, b_mod, b_pow, b_addT, b_addL, b_mulL, c_lt, c_le, c_gt, c_ge, c_eq, c_ne, c_eqs, c_nes, c_is, c_isnt, n_n, n_t, n_i, n_l, bl_b, int_i, f_len, f_lenT, f_min, f_max, f_abs, f_intB, f_int, f_tup, f_tupT, f_lst, f_lstT, f_sum, r_l0, r_l1, ints_map, c_neNil, c_ne00, sz0, pt0, pt1, pt2, if_true, if_false, ite_true, ite_false, if_false_right, if_false_left, decide_eq_true_eq, Bool.not_eq_true', Bool.not_true, Bool.not_false, decide_eq_false_iff_not, Bool.false_eq_true, reduceCtorEq, true_and, and_true, Int.reduceLT, Int.reduceLE, Int.reducePow, Int.reduceNeg, Int.reduceMul, Int.reduceAdd, Int.reduceSub, Int.reduceToNat, Int.reduceEq, na10, Nat.reducePow, Nat.reduceLT, Nat.reduceLeDiff, Nat.reduceAdd, Nat.reduceSub, true_or, or_true, and_self, h2, h3, decide_true, decide_false, Int.add_zero]
      all_goals simp only [h2, h3, true_and, false_and, if_false] at q
      · refine in_ok ?_
        cases h4 : inB b x y <;> simp only [Ok_cons, Ok_nil, SK_nx, SK_rt, FK_rt, FK_nx, evS, evE, evP, evEs, evQs, evPs, evO, evC, evI, Ok_bind, Ok_map, Ok_some, Ok_none, Ok_ite, getS, peekS, setS, wipeS, orc, permA, keyOf, List.map_cons, List.map_nil, List.cons_append, List.nil_append, List.append_nil, List.replicate, List.length_cons, List.length_nil, List.getElem?_cons_zero, List.getElem?_cons_succ, List.set_cons_zero, List.set_cons_succ, Option.map_some, Option.bind_some, asgT, asgTs, seqD, Ts.len, starD, List.take_succ_cons, List.take_zero, List.drop_succ_cons, List.drop_zero, List.take_nil, List.drop_nil, List.flatten_cons, List.flatten_nil, tp_n, tp_b, tp_i, tp_s, tp_t, tp_l, tp_d, tp_k, tp_c, tp_r0, tp_r1, ix_l, ix_t, ix_k, ix_d, ix_di, at0, at1, at2, at3, at4, at5, at6, at7, atm1, atm2, atm3, b_add, b_sub, b_mul, b_div, b_mod, b_pow, b_addT, b_addL, b_mulL, c_lt, c_le, c_gt, c_ge, c_eq, c_ne, c_eqs, c_nes, c_is, c_isnt, n_n, n_t, n_i, n_l, bl_b, int_i, f_len, f_lenT, f_min, f_max, f_abs, f_intB, f_int, f_tup, f_tupT, f_lst, f_lstT, f_sum, r_l0, r_l1, ints_map, c_neNil, c_ne00, sz0, pt0, pt1, pt2, if_true, if_false, ite_true, ite_false, if_false_right, if_false_left, decide_eq_true_eq, Bool.not_eq_true', Bool.not_true, Bool.not_false, decide_eq_false_iff_not, Bool.false_eq_true, reduceCtorEq, true_and, and_true, Int.reduceLT, Int.reduceLE, Int.reducePow, Int.reduceNeg, Int.reduceMul, Int.reduceAdd, Int.reduceSub, Int.reduceToNat, Int.reduceEq, na10, Nat.reducePow, Nat.reduceLT, Nat.reduceLeDiff, Nat.reduceAdd, Nat.reduceSub, true_or, or_true, and_self, h4, Int.add_zero] at q ⊢ <;> exact q
      all_goals exact q
  | bring b o n f l =>
    unfold Tk.t
    simp +decide only [Ok_cons, Ok_nil, SK_nx, SK_rt, FK_rt, FK_nx, evS, evE, evP, evEs, evQs, evPs, evO, evC, evI, Ok_bind, Ok_map, Ok_some, Ok_none, Ok_ite, getS, peekS, setS, wipeS, orc, permA, keyOf, List.map_cons, List.map_nil, List.cons_append, List.nil_append, List.append_nil, List.replicate, List.length_cons, List.length_nil, List.getElem?_cons_zero, List.getElem?_cons_succ, List.set_cons_zero, List.set_cons_succ, Option.map_some, Option.bind_some, asgT, asgTs, seqD, Ts.len, starD, List.take_succ_cons, List.take_zero, List.drop_succ_cons, List.drop_zero, List.take_nil, List.drop_nil, List.flatten_cons, List.flatten_nil, tp_n, tp_b, tp_i, tp_s, tp_t, tp_l, tp_d, tp_k, tp_c, tp_r0, tp_r1, ix_l, ix_t, ix_k, ix_d, ix_di, at0, at1, at2, at3, at4, at5, at6, at7, atm1, atm2, atm3, b_add, b_sub, b_mul, b_div, b_mod, b_pow, b_addT, b_addL, b_mulL, c_lt, c_le, c_gt, c_ge, c_eq, c_ne, c_eqs, c_nes, c_is, c_isnt, n_n, n_t, n_i, n_l, bl_b, int_i, f_len, f_lenT, f_min, f_max, f_abs, f_intB, f_int, f_tup, f_tupT, f_lst, f_lstT, f_sum, r_l0, r_l1, ints_map, c_neNil, c_ne00, sz0, pt0, pt1, pt2, if_true, if_false, ite_true, ite_false, if_false_right, if_false_left, decide_eq_true_eq, Bool.not_eq_true', Bool.not_true, Bool.not_false, decide_eq_false_iff_not, Bool.false_eq_true, reduceCtorEq, true_and, and_true, Int.reduceLT, Int.reduceLE, Int.reducePow, Int.reduceNeg, Int.reduceMul, Int.reduceAdd, Int.reduceSub, Int.reduceToNat, Int.reduceEq, na10, Nat.reducePow, Nat.reduceLT, Nat.reduceLeDiff, Nat.reduceAdd, Nat.reduceSub, true_or, or_true, and_self]
    refine last_ok (t := .bring b o n f l) ?_
    simp +decide only [Ok_cons, Ok_nil, SK_nx, SK_rt, FK_rt, FK_nx, evS, evE, evP, evEs, evQs, evPs, evO, evC, evI, Ok_bind, Ok_map, Ok_some, Ok_none, Ok_ite, getS, peekS, setS, wipeS, orc, permA, keyOf, List.map_cons, List.map_nil, List.cons_append, List.nil_append, List.append_nil, List.replicate, List.length_cons, List.length_nil, List.getElem?_cons_zero, List.getElem?_cons_succ, List.set_cons_zero, List.set_cons_succ, Option.map_some, Option.bind_some, asgT, asgTs, seqD, Ts.len, starD, List.take_succ_cons, List.take_zero, List.drop_succ_cons, List.drop_zero, List.take_nil, List.drop_nil, List.flatten_cons, List.flatten_nil, tp_n, tp_b, tp_i, tp_s, tp_t, tp_l, tp_d, tp_k, tp_c, tp_r0, tp_r1, ix_l, ix_t, ix_k, ix_d, ix_di, at0, at1, at2, at3, at4, at5, at6, at7, atm1, atm2, atm3, b_add, b_sub, b_mul, b_div, b_mod, b_pow, b_addT, b_addL, b_mulL, c_lt, c_le, c_gt, c_ge, c_eq, c_ne, c_eqs, c_nes, c_is, c_isnt, n_n, n_t, n_i, n_l, bl_b, int_i, f_len, f_lenT, f_min, f_max, f_abs, f_intB, f_int, f_tup, f_tupT, f_lst, f_lstT, f_sum, r_l0, r_l1, ints_map, c_neNil, c_ne00, sz0, pt0, pt1, pt2, if_true, if_false, ite_true, ite_false, if_false_right, if_false_left, decide_eq_true_eq, Bool.not_eq_true', Bool.not_true, Bool.not_false, decide_eq_false_iff_not, Bool.false_eq_true, reduceCtorEq, true_and, and_true, Int.reduceLT, Int.reduceLE, Int.reducePow, Int.reduceNeg, Int.reduceMul, Int.reduceAdd, Int.reduceSub, Int.reduceToNat, Int.reduceEq, na10, Nat.reducePow, Nat.reduceLT, Nat.reduceLeDiff, Nat.reduceAdd, Nat.reduceSub, true_or, or_true, and_self, lastF]
    simp only [stepF] at q
    by_cases h1 : s = 2
    · rw [if_pos h1] at q ⊢; exact q
    · rw [if_neg h1] at q ⊢
      by_cases h2 : f ≤ h <;> by_cases h3 : h ≤ l
      all_goals by_cases hs : s = 1
      all_goals simp +decide only [Ok_cons, Ok_nil, SK_nx, SK_rt, FK_rt, FK_nx, evS, evE, evP, evEs, evQs, evPs, evO, evC, evI, Ok_bind, Ok_map, Ok_some, Ok_none, Ok_ite, getS, peekS, setS, wipeS, orc, permA, keyOf, List.map_cons, List.map_nil, List.cons_append, List.nil_append, List.append_nil, List.replicate, List.length_cons, List.length_nil, List.getElem?_cons_zero, List.getElem?_cons_succ, List.set_cons_zero, List.set_cons_succ, Option.map_some, Option.bind_some, asgT, asgTs, seqD, Ts.len, starD, List.take_succ_cons, List.take_zero, List.drop_succ_cons, List.drop_zero, List.take_nil, List.drop_nil, List.flatten_cons, List.flatten_nil, tp_n, tp_b, tp_i, tp_s, tp_t, tp_l, tp_d, tp_k, tp_c, tp_r0, tp_r1, ix_l, ix_t, ix_k, ix_d, ix_di, at0, at1, at2, at3, at4, at5, at6, at7, atm1, atm2, atm3, b_add, b_sub, b_mul, b_div, b_mod, b_pow, b_addT, b_addL, b_mulL, c_lt, c_le, c_gt, c_ge, c_eq, c_ne, c_eqs, c_nes, c_is, c_isnt, n_n, n_t, n_i, n_l, bl_b, int_i, f_len, f_lenT, f_min, f_max, f_abs, f_intB, f_int, f_tup, f_tupT, f_lst, f_lstT, f_sum, r_l0, r_l1, ints_map, c_neNil, c_ne00, sz0, pt0, pt1, pt2, if_true, if_false, ite_true, ite_false, if_false_right, if_false_left, decide_eq_true_eq, Bool.not_eq_true', Bool.not_true, Bool.not_false, decide_eq_false_iff_not, Bool.false_eq_true, reduceCtorEq, true_and, and_true, Int.reduceLT, Int.reduceLE, Int.reducePow, Int.reduceNeg, Int.reduceMul, Int.reduceAdd, Int.reduceSub, Int.reduceToNat, Int.reduceEq, na10, Nat.reducePow, Nat.reduceLT, Nat.reduceLeDiff, Nat.reduceAdd, Nat.reduceSub, true_or, or_true, and_self, h2, h3, hs, decide_true, decide_false, Int.add_zero]
      all_goals simp only [h2, h3, hs, true_and, false_and, if_false, if_true] at q
      · refine in_ok ?_
        cases h4 : inB o x y <;> simp only [Ok_cons, Ok_nil, SK_nx, SK_rt, FK_rt, FK_nx, evS, evE, evP, evEs, evQs, evPs, evO, evC, evI, Ok_bind, Ok_map, Ok_some, Ok_none, Ok_ite, getS, peekS, setS, wipeS, orc, permA, keyOf, List.map_cons, List.map_nil, List.cons_append, List.nil_append, List.append_nil, List.replicate, List.length_cons, List.length_nil, List.getElem?_cons_zero, List.getElem?_cons_succ, List.set_cons_zero, List.set_cons_succ, Option.map_some, Option.bind_some, asgT, asgTs, seqD, Ts.len, starD, List.take_succ_cons, List.take_zero, List.drop_succ_cons, List.drop_zero, List.take_nil, List.drop_nil, List.flatten_cons, List.flatten_nil, tp_n, tp_b, tp_i, tp_s, tp_t, tp_l, tp_d, tp_k, tp_c, tp_r0, tp_r1, ix_l, ix_t, ix_k, ix_d, ix_di, at0, at1, at2, at3, at4, at5, at6, at7, atm1, atm2, atm3, b_add, b_sub, b_mul, b_div, b_mod, b_pow, b_addT, b_addL, b_mulL, c_lt, c_le, c_gt, c_ge, c_eq, c_ne, c_eqs, c_nes, c_is, c_isnt, n_n, n_t, n_i, n_l, bl_b, int_i, f_len, f_lenT, f_min, f_max, f_abs, f_intB, f_int, f_tup, f_tupT, f_lst, f_lstT, f_sum, r_l0, r_l1, ints_map, c_neNil, c_ne00, sz0, pt0, pt1, pt2, if_true, if_false, ite_true, ite_false, if_false_right, if_false_left, decide_eq_true_eq, Bool.not_eq_true', Bool.not_true, Bool.not_false, decide_eq_false_iff_not, Bool.false_eq_true, reduceCtorEq, true_and, and_true, Int.reduceLT, Int.reduceLE, Int.reducePow, Int.reduceNeg, Int.reduceMul, Int.reduceAdd, Int.reduceSub, Int.reduceToNat, Int.reduceEq, na10, Nat.reducePow, Nat.reduceLT, Nat.reduceLeDiff, Nat.reduceAdd, Nat.reduceSub, true_or, or_true, and_self, h4, Int.add_zero] at q ⊢ <;> exact q
      · refine in_ok ?_
        cases h4 : inB b x y <;> simp only [Ok_cons, Ok_nil, SK_nx, SK_rt, FK_rt, FK_nx, evS, evE, evP, evEs, evQs, evPs, evO, evC, evI, Ok_bind, Ok_map, Ok_some, Ok_none, Ok_ite, getS, peekS, setS, wipeS, orc, permA, keyOf, List.map_cons, List.map_nil, List.cons_append, List.nil_append, List.append_nil, List.replicate, List.length_cons, List.length_nil, List.getElem?_cons_zero, List.getElem?_cons_succ, List.set_cons_zero, List.set_cons_succ, Option.map_some, Option.bind_some, asgT, asgTs, seqD, Ts.len, starD, List.take_succ_cons, List.take_zero, List.drop_succ_cons, List.drop_zero, List.take_nil, List.drop_nil, List.flatten_cons, List.flatten_nil, tp_n, tp_b, tp_i, tp_s, tp_t, tp_l, tp_d, tp_k, tp_c, tp_r0, tp_r1, ix_l, ix_t, ix_k, ix_d, ix_di, at0, at1, at2, at3, at4, at5, at6, at7, atm1, atm2, atm3, b_add, b_sub, b_mul, b_div, b_mod, b_pow, b_addT, b_addL, b_mulL, c_lt, c_le, c_gt, c_ge, c_eq, c_ne, c_eqs, c_nes, c_is, c_isnt, n_n, n_t, n_i, n_l, bl_b, int_i, f_len, f_lenT, f_min, f_max, f_abs, f_intB, f_int, f_tup, f_tupT, f_lst, f_lstT, f_sum, r_l0, r_l1, ints_map, c_neNil, c_ne00, sz0, pt0, pt1, pt2, if_true, if_false, ite_true, ite_false, if_false_right, if_false_left, decide_eq_true_eq, Bool.not_eq_true', Bool.not_true, Bool.not_false, decide_eq_false_iff_not, Bool.false_eq_true, reduceCtorEq, true_and, and_true, Int.reduceLT, Int.reduceLE, Int.reducePow, Int.reduceNeg, Int.reduceMul, Int.reduceAdd, Int.reduceSub, Int.reduceToNat, Int.reduceEq, na10, Nat.reducePow, Nat.reduceLT, Nat.reduceLeDiff, Nat.reduceAdd, Nat.reduceSub, true_or, or_true, and_self, h4, Int.add_zero] at q ⊢ <;> exact q
      all_goals exact q
  | over b n f l =>
    unfold Tk.t
    simp +decide only [Ok_cons, Ok_nil, SK_nx, SK_rt, FK_rt, FK_nx, evS, evE, evP, evEs, evQs, evPs, evO, evC, evI, Ok_bind, Ok_map, Ok_some, Ok_none, Ok_ite, getS, peekS, setS, wipeS, orc, permA, keyOf, List.map_cons, List.map_nil, List.cons_append, List.nil_append, List.append_nil, List.replicate, List.length_cons, List.length_nil, List.getElem?_cons_zero, List.getElem?_cons_succ, List.set_cons_zero, List.set_cons_succ, Option.map_some, Option.bind_some, asgT, asgTs, seqD, Ts.len, starD, List.take_succ_cons, List.take_zero, List.drop_succ_cons, List.drop_zero, List.take_nil, List.drop_nil, List.flatten_cons, List.flatten_nil, tp_n, tp_b, tp_i, tp_s, tp_t, tp_l, tp_d, tp_k, tp_c, tp_r0, tp_r1, ix_l, ix_t, ix_k, ix_d, ix_di, at0, at1, at2, at3, at4, at5, at6, at7, atm1, atm2, atm3, b_add, b_sub, b_mul, b_div, b_mod, b_pow, b_addT, b_addL, b_mulL, c_lt, c_le, c_gt, c_ge, c_eq, c_ne, c_eqs, c_nes, c_is, c_isnt, n_n, n_t, n_i, n_l, bl_b, int_i, f_len, f_lenT, f_min, f_max, f_abs, f_intB, f_int, f_tup, f_tupT, f_lst, f_lstT, f_sum, r_l0, r_l1, ints_map, c_neNil, c_ne00, sz0, pt0, pt1, pt2, if_true, if_false, ite_true, ite_false, if_false_right, if_false_left, decide_eq_true_eq, Bool.not_eq_true', Bool.not_true, Bool.not_false, decide_eq_false_iff_not, Bool.false_eq_true, reduceCtorEq, true_and, and_true, Int.reduceLT, Int.reduceLE, Int.reducePow, Int.reduceNeg, Int.reduceMul, Int.reduceAdd, Int.reduceSub, Int.reduceToNat, Int.reduceEq, na10, Nat.reducePow, Nat.reduceLT, Nat.reduceLeDiff, Nat.reduceAdd, Nat.reduceSub, true_or, or_true, and_self]
    refine last_ok (t := .over b n f l) ?_
    simp +decide only [Ok_cons, Ok_nil, SK_nx, SK_rt, FK_rt, FK_nx, evS, evE, evP, evEs, evQs, evPs, evO, evC, evI, Ok_bind, Ok_map, Ok_some, Ok_none, Ok_ite, getS, peekS, setS, wipeS, orc, permA, keyOf, List.map_cons, List.map_nil, List.cons_append, List.nil_append, List.append_nil, List.replicate, List.length_cons, List.length_nil, List.getElem?_cons_zero, List.getElem?_cons_succ, List.set_cons_zero, List.set_cons_succ, Option.map_some, Option.bind_some, asgT, asgTs, seqD, Ts.len, starD, List.take_succ_cons, List.take_zero, List.drop_succ_cons, List.drop_zero, List.take_nil, List.drop_nil, List.flatten_cons, List.flatten_nil, tp_n, tp_b, tp_i, tp_s, tp_t, tp_l, tp_d, tp_k, tp_c, tp_r0, tp_r1, ix_l, ix_t, ix_k, ix_d, ix_di, at0, at1, at2, at3, at4, at5, at6, at7, atm1, atm2, atm3, b_add, b_sub, b_mul, b_div, b_mod, b_pow, b_addT, b_addL, b_mulL, c_lt, c_le, c_gt, c_ge, c_eq, c_ne, c_eqs, c_nes, c_is, c_isnt, n_n, n_t, n_i, n_l, bl_b, int_i, f_len, f_lenT, f_min, f_max, f_abs, f_intB, f_int, f_tup, f_tupT, f_lst, f_lstT, f_sum, r_l0, r_l1, ints_map, c_neNil, c_ne00, sz0, pt0, pt1, pt2, if_true, if_false, ite_true, ite_false, if_false_right, if_false_left, decide_eq_true_eq, Bool.not_eq_true', Bool.not_true, Bool.not_false, decide_eq_false_iff_not, Bool.false_eq_true, reduceCtorEq, true_and, and_true, Int.reduceLT, Int.reduceLE, Int.reducePow, Int.reduceNeg, Int.reduceMul, Int.reduceAdd, Int.reduceSub, Int.reduceToNat, Int.reduceEq, na10, Nat.reducePow, Nat.reduceLT, Nat.reduceLeDiff, Nat.reduceAdd, Nat.reduceSub, true_or, or_true, and_self, lastF]
    simp only [stepF] at q
    by_cases h1 : s = n
    · rw [if_pos h1] at q ⊢; exact q
    · rw [if_neg h1] at q ⊢
      by_cases h2 : f ≤ h <;> by_cases h3 : h ≤ l
      all_goals simp +decide only [Ok_cons, Ok_nil, SK_nx, SK_rt, FK_rt, FK_nx, evS, evE, evP, evEs, evQs, evPs, evO, evC, evI, Ok_bind, Ok_map, Ok_some, Ok_none, Ok_ite, getS, peekS, setS, wipeS, orc, permA, keyOf, List.map_cons, List.map_nil, List.cons_append, List.nil_append, List.append_nil, List.replicate, List.length_cons, List.length_nil, List.getElem?_cons_zero, List.getElem?_cons_succ, List.set_cons_zero, List.set_cons_succ, Option.map_some, Option.bind_some, asgT, asgTs, seqD, Ts.len, starD, List.take_succ_cons, List.take_zero, List.drop_succ_cons, List.drop_zero, List.take_nil, List.drop_nil, List.flatten_cons, List.flatten_nil, tp_n, tp_b, tp_i, tp_s, tp_t, tp_l, tp_d, tp_k, tp_c, tp_r0, tp_r1, ix_l, ix_t, ix_k, ix_d, ix_di, at0, at1, at2, at3, at4, at5, at6, at7, atm1, atm2, atm3, b_add, b_sub, b_mul, b_div, b_mod, b_pow, b_addT, b_addL, b_mulL, c_lt, c_le, c_gt, c_ge, c_eq, c_ne, c_eqs, c_nes, c_is, c_isnt, n_n, n_t, n_i, n_l, bl_b, int_i, f_len, f_lenT, f_min, f_max, f_abs, f_intB, f_int, f_tup, f_tupT, f_lst, f_lstT, f_sum, r_l0, r_l1, ints_map, c_neNil, c_ne00, sz0, pt0, pt1, pt2, if_true, if_false, ite_true, ite_false, if_false_right, if_false_left, decide_eq_true_eq, Bool.not_eq_true', Bool.not_true, Bool.not_false, decide_eq_false_iff_not, Bool.false_eq_true, reduceCtorEq, true_and, and_true, Int.reduceLT, Int.reduceLE, Int.reducePow, Int.reduceNeg, Int.reduceMul, Int.reduceAdd, Int.reduceSub, Int.reduceToNat, Int.reduceEq, na10, Nat.reducePow, Nat.reduceLT, Nat.reduceLeDiff, Nat.reduceAdd, Nat.reduceSub, true_or, or_true, and_self, h2, h3, decide_true, decide_false, Int.add_zero]
      all_goals simp only [h2, h3, true_and, false_and, if_false] at q
      · refine in_ok ?_
        cases h4 : inB b x y <;> simp only [Ok_cons, Ok_nil, SK_nx, SK_rt, FK_rt, FK_nx, evS, evE, evP, evEs, evQs, evPs, evO, evC, evI, Ok_bind, Ok_map, Ok_some, Ok_none, Ok_ite, getS, peekS, setS, wipeS, orc, permA, keyOf, List.map_cons, List.map_nil, List.cons_append, List.nil_append, List.append_nil, List.replicate, List.length_cons, List.length_nil, List.getElem?_cons_zero, List.getElem?_cons_succ, List.set_cons_zero, List.set_cons_succ, Option.map_some, Option.bind_some, asgT, asgTs, seqD, Ts.len, starD, List.take_succ_cons, List.take_zero, List.drop_succ_cons, List.drop_zero, List.take_nil, List.drop_nil, List.flatten_cons, List.flatten_nil, tp_n, tp_b, tp_i, tp_s, tp_t, tp_l, tp_d, tp_k, tp_c, tp_r0, tp_r1, ix_l, ix_t, ix_k, ix_d, ix_di, at0, at1, at2, at3, at4, at5, at6, at7, atm1, atm2, atm3, b_add, b_sub, b_mul, b_div, b_mod, b_pow, b_addT, b_addL, b_mulL, c_lt, c_le, c_gt, c_ge, c_eq, c_ne, c_eqs, c_nes, c_is, c_isnt, n_n, n_t, n_i, n_l, bl_b, int_i, f_len, f_lenT, f_min, f_max, f_abs, f_intB, f_int, f_tup, f_tupT, f_lst, f_lstT, f_sum, r_l0, r_l1, ints_map, c_neNil, c_ne00, sz0, pt0, pt1, pt2, if_true, if_false, ite_true, ite_false, if_false_right, if_false_left, decide_eq_true_eq, Bool.not_eq_true', Bool.not_true, Bool.not_false, decide_eq_false_iff_not, Bool.false_eq_true, reduceCtorEq, true_and, and_true, Int.reduceLT, Int.reduceLE, Int.reducePow, Int.reduceNeg, Int.reduceMul, Int.reduceAdd, Int.reduceSub, Int.reduceToNat, Int.reduceEq, na10, Nat.reducePow, Nat.reduceLT, Nat.reduceLeDiff, Nat.reduceAdd, Nat.reduceSub, true_or, or_true, and_self, h4, Int.add_zero] at q ⊢ <;> exact q
      all_goals exact q
end
end K06
set_option Elab.async false
set_option linter.all false
set_option maxRecDepth 100000
namespace K06
open PySem L2 Wf
def someD (w h d : Int) (p : D) : D := .dct [(.inr "wide", .int w), (.inr "high", .int h), (.inr "day", .int d), (.inr "pads", p)]
section
variable {n : Nat} {R S : Sto} {Q : D × Sto → Prop} {t : Tk} {w h d : Int} {p : D}
theorem lkW {a b c e : D} : look [(.inr "wide", a), (.inr "high", b), (.inr "day", c), (.inr "pads", e)] (.inr "wide") = some a := rfl
theorem lkH {a b c e : D} : look [(.inr "wide", a), (.inr "high", b), (.inr "day", c), (.inr "pads", e)] (.inr "high") = some b := rfl
theorem lkD {a b c e : D} : look [(.inr "wide", a), (.inr "high", b), (.inr "day", c), (.inr "pads", e)] (.inr "day") = some c := rfl
theorem dr : prg.fs[6]? = some ⟨2, 4, drawB⟩ := rfl
theorem pk : prg.fs[7]? = some ⟨2, 2, pickB 6⟩ := rfl
theorem bd : prg.fs[8]? = some ⟨3, 3, boundsB 6⟩ := rfl
theorem de : prg.fs[5]? = some ⟨1, 3, deckB⟩ := rfl
/-- one of some numbers -/
theorem pickI {ns : List Int} {a b : Int} (hk : Dk R S) (h0 : 0 < ns.length) (h1 : ns.length < 1073741824) (hb : ∀ x ∈ ns, a ≤ x ∧ x ≤ b) (q : ∀ r S', a ≤ r → r ≤ b → Dk R S' → Q (.int r, S')) : Ok (callN prg (n + 2) 7 [.ref 1, .lst (ns.map D.int)] S) Q := by
  refine pick_ok pk dr hk (by rw [List.length_map]; exact h0) (by rw [List.length_map]; exact h1) fun x S' m h' => ?_
  obtain ⟨r, hr, rfl⟩ := List.mem_map.mp m
  exact q r S' (hb r hr).1 (hb r hr).2 h'
theorem fields_ok (hk : Dk R S) (q : ∀ w h d p S', 1 ≤ w → w ≤ 12 → 1 ≤ h → h ≤ 12 → 1 ≤ d → d ≤ 24 → Dk R S' → Q (someD w h d p, S')) : Ok (callN prg (n + 3) 9 [.ref 1] S) Q := by
  refine Ok_call (f := ⟨1, 4, b9⟩) rfl rfl ?_
  unfold b9
  simp +decide only [Ok_cons, Ok_nil, SK_nx, SK_rt, FK_rt, FK_nx, evS, evE, evP, evEs, evQs, evPs, evO, evC, evI, Ok_bind, Ok_map, Ok_some, Ok_none, Ok_ite, getS, peekS, setS, wipeS, orc, permA, keyOf, List.map_cons, List.map_nil, List.cons_append, List.nil_append, List.append_nil, List.replicate, List.length_cons, List.length_nil, List.getElem?_cons_zero, List.getElem?_cons_succ, List.set_cons_zero, List.set_cons_succ, Option.map_some, Option.bind_some, asgT, asgTs, seqD, Ts.len, starD, List.take_succ_cons, List.take_zero, List.drop_succ_cons, List.drop_zero, List.take_nil, List.drop_nil, List.flatten_cons, List.flatten_nil, tp_n, tp_b, tp_i, tp_s, tp_t, tp_l, tp_d, tp_k, tp_c, tp_r0, tp_r1, ix_l, ix_t, ix_k, ix_d, ix_di, at0, at1, at2, at3, at4, at5, at6, at7, atm1, atm2, atm3, b_add, b_sub, b_mul, b_div, b_mod, b_pow, b_addT, b_addL, b_mulL, c_lt, c_le, c_gt, c_ge, c_eq, c_ne, c_eqs, c_nes, c_is, c_isnt, n_n, n_t, n_i, n_l, bl_b, int_i, f_len, f_lenT, f_min, f_max, f_abs, f_intB, f_int, f_tup, f_tupT, f_lst, f_lstT, f_sum, r_l0, r_l1, ints_map, c_neNil, c_ne00, sz0, pt0, pt1, pt2, if_true, if_false, ite_true, ite_false, if_false_right, if_false_left, decide_eq_true_eq, Bool.not_eq_true', Bool.not_true, Bool.not_false, decide_eq_false_iff_not, Bool.false_eq_true, reduceCtorEq, true_and, and_true, Int.reduceLT, Int.reduceLE, Int.reducePow, Int.reduceNeg, Int.reduceMul, Int.reduceAdd, Int.reduceSub, Int.reduceToNat, Int.reduceEq, na10, Nat.reducePow, Nat.reduceLT, Nat.reduceLeDiff, Nat.reduceAdd, Nat.reduceSub, true_or, or_true, and_self]
  refine pickI (ns := [1, 2, 9, 10, 12, 4]) (a := 1) (b := 12) hk (by decide) (by decide) (by decide) fun w S1 w0 w1 k1 => ?_
  simp +decide only [Ok_cons, Ok_nil, SK_nx, SK_rt, FK_rt, FK_nx, evS, evE, evP, evEs, evQs, evPs, evO, evC, evI, Ok_bind, Ok_map, Ok_some, Ok_none, Ok_ite, getS, peekS, setS, wipeS, orc, permA, keyOf, List.map_cons, List.map_nil, List.cons_append, List.nil_append, List.append_nil, List.replicate, List.length_cons, List.length_nil, List.getElem?_cons_zero, List.getElem?_cons_succ, List.set_cons_zero, List.set_cons_succ, Option.map_some, Option.bind_some, asgT, asgTs, seqD, Ts.len, starD, List.take_succ_cons, List.take_zero, List.drop_succ_cons, List.drop_zero, List.take_nil, List.drop_nil, List.flatten_cons, List.flatten_nil, tp_n, tp_b, tp_i, tp_s, tp_t, tp_l, tp_d, tp_k, tp_c, tp_r0, tp_r1, ix_l, ix_t, ix_k, ix_d, ix_di, at0, at1, at2, at3, at4, at5, at6, at7, atm1, atm2, atm3, b_add, b_sub, b_mul, b_div, b_mod, b_pow, b_addT, b_addL, b_mulL, c_lt, c_le, c_gt, c_ge, c_eq, c_ne, c_eqs, c_nes, c_is, c_isnt, n_n, n_t, n_i, n_l, bl_b, int_i, f_len, f_lenT, f_min, f_max, f_abs, f_intB, f_int, f_tup, f_tupT, f_lst, f_lstT, f_sum, r_l0, r_l1, ints_map, c_neNil, c_ne00, sz0, pt0, pt1, pt2, if_true, if_false, ite_true, ite_false, if_false_right, if_false_left, decide_eq_true_eq, Bool.not_eq_true', Bool.not_true, Bool.not_false, decide_eq_false_iff_not, Bool.false_eq_true, reduceCtorEq, true_and, and_true, Int.reduceLT, Int.reduceLE, Int.reducePow, Int.reduceNeg, Int.reduceMul, Int.reduceAdd, Int.reduceSub, Int.reduceToNat, Int.reduceEq, na10, Nat.reducePow, Nat.reduceLT, Nat.reduceLeDiff, Nat.reduceAdd, Nat.reduceSub, true_or, or_true, and_self]
  refine pickI (ns := [1, 2, 9, 10, 12, 4]) (a := 1) (b := 12) k1 (by decide) (by decide) (by decide) fun h S2 h0 h1 k2 => ?_
  simp +decide only [Ok_cons, Ok_nil, SK_nx, SK_rt, FK_rt, FK_nx, evS, evE, evP, evEs, evQs, evPs, evO, evC, evI, Ok_bind, Ok_map, Ok_some, Ok_none, Ok_ite, getS, peekS, setS, wipeS, orc, permA, keyOf, List.map_cons, List.map_nil, List.cons_append, List.nil_append, List.append_nil, List.replicate, List.length_cons, List.length_nil, List.getElem?_cons_zero, List.getElem?_cons_succ, List.set_cons_zero, List.set_cons_succ, Option.map_some, Option.bind_some, asgT, asgTs, seqD, Ts.len, starD, List.take_succ_cons, List.take_zero, List.drop_succ_cons, List.drop_zero, List.take_nil, List.drop_nil, List.flatten_cons, List.flatten_nil, tp_n, tp_b, tp_i, tp_s, tp_t, tp_l, tp_d, tp_k, tp_c, tp_r0, tp_r1, ix_l, ix_t, ix_k, ix_d, ix_di, at0, at1, at2, at3, at4, at5, at6, at7, atm1, atm2, atm3, b_add, b_sub, b_mul, b_div, b_mod, b_pow, b_addT, b_addL, b_mulL, c_lt, c_le, c_gt, c_ge, c_eq, c_ne, c_eqs, c_nes, c_is, c_isnt, n_n, n_t, n_i, n_l, bl_b, int_i, f_len, f_lenT, f_min, f_max, f_abs, f_intB, f_int, f_tup, f_tupT, f_lst, f_lstT, f_sum, r_l0, r_l1, ints_map, c_neNil, c_ne00, sz0, pt0, pt1, pt2, if_true, if_false, ite_true, ite_false, if_false_right, if_false_left, decide_eq_true_eq, Bool.not_eq_true', Bool.not_true, Bool.not_false, decide_eq_false_iff_not, Bool.false_eq_true, reduceCtorEq, true_and, and_true, Int.reduceLT, Int.reduceLE, Int.reducePow, Int.reduceNeg, Int.reduceMul, Int.reduceAdd, Int.reduceSub, Int.reduceToNat, Int.reduceEq, na10, Nat.reducePow, Nat.reduceLT, Nat.reduceLeDiff, Nat.reduceAdd, Nat.reduceSub, true_or, or_true, and_self]
  refine pickI (ns := [1, 2, 9, 10, 24, 5]) (a := 1) (b := 24) k2 (by decide) (by decide) (by decide) fun d S3 d0 d1 k3 => ?_
  simp +decide only [Ok_cons, Ok_nil, SK_nx, SK_rt, FK_rt, FK_nx, evS, evE, evP, evEs, evQs, evPs, evO, evC, evI, Ok_bind, Ok_map, Ok_some, Ok_none, Ok_ite, getS, peekS, setS, wipeS, orc, permA, keyOf, List.map_cons, List.map_nil, List.cons_append, List.nil_append, List.append_nil, List.replicate, List.length_cons, List.length_nil, List.getElem?_cons_zero, List.getElem?_cons_succ, List.set_cons_zero, List.set_cons_succ, Option.map_some, Option.bind_some, asgT, asgTs, seqD, Ts.len, starD, List.take_succ_cons, List.take_zero, List.drop_succ_cons, List.drop_zero, List.take_nil, List.drop_nil, List.flatten_cons, List.flatten_nil, tp_n, tp_b, tp_i, tp_s, tp_t, tp_l, tp_d, tp_k, tp_c, tp_r0, tp_r1, ix_l, ix_t, ix_k, ix_d, ix_di, at0, at1, at2, at3, at4, at5, at6, at7, atm1, atm2, atm3, b_add, b_sub, b_mul, b_div, b_mod, b_pow, b_addT, b_addL, b_mulL, c_lt, c_le, c_gt, c_ge, c_eq, c_ne, c_eqs, c_nes, c_is, c_isnt, n_n, n_t, n_i, n_l, bl_b, int_i, f_len, f_lenT, f_min, f_max, f_abs, f_intB, f_int, f_tup, f_tupT, f_lst, f_lstT, f_sum, r_l0, r_l1, ints_map, c_neNil, c_ne00, sz0, pt0, pt1, pt2, if_true, if_false, ite_true, ite_false, if_false_right, if_false_left, decide_eq_true_eq, Bool.not_eq_true', Bool.not_true, Bool.not_false, decide_eq_false_iff_not, Bool.false_eq_true, reduceCtorEq, true_and, and_true, Int.reduceLT, Int.reduceLE, Int.reducePow, Int.reduceNeg, Int.reduceMul, Int.reduceAdd, Int.reduceSub, Int.reduceToNat, Int.reduceEq, na10, Nat.reducePow, Nat.reduceLT, Nat.reduceLeDiff, Nat.reduceAdd, Nat.reduceSub, true_or, or_true, and_self]
  refine ⟨(show 2 < sizeLine by decide), Ok_is rfl ?_⟩
  refine pickI (ns := [0, 1, 1, 2, 4]) (a := 0) (b := 4) k3 (by decide) (by decide) (by decide) fun m S4 m0 m1 k4 => ?_
  simp +decide only [Ok_cons, Ok_nil, SK_nx, SK_rt, FK_rt, FK_nx, evS, evE, evP, evEs, evQs, evPs, evO, evC, evI, Ok_bind, Ok_map, Ok_some, Ok_none, Ok_ite, getS, peekS, setS, wipeS, orc, permA, keyOf, List.map_cons, List.map_nil, List.cons_append, List.nil_append, List.append_nil, List.replicate, List.length_cons, List.length_nil, List.getElem?_cons_zero, List.getElem?_cons_succ, List.set_cons_zero, List.set_cons_succ, Option.map_some, Option.bind_some, asgT, asgTs, seqD, Ts.len, starD, List.take_succ_cons, List.take_zero, List.drop_succ_cons, List.drop_zero, List.take_nil, List.drop_nil, List.flatten_cons, List.flatten_nil, tp_n, tp_b, tp_i, tp_s, tp_t, tp_l, tp_d, tp_k, tp_c, tp_r0, tp_r1, ix_l, ix_t, ix_k, ix_d, ix_di, at0, at1, at2, at3, at4, at5, at6, at7, atm1, atm2, atm3, b_add, b_sub, b_mul, b_div, b_mod, b_pow, b_addT, b_addL, b_mulL, c_lt, c_le, c_gt, c_ge, c_eq, c_ne, c_eqs, c_nes, c_is, c_isnt, n_n, n_t, n_i, n_l, bl_b, int_i, f_len, f_lenT, f_min, f_max, f_abs, f_intB, f_int, f_tup, f_tupT, f_lst, f_lstT, f_sum, r_l0, r_l1, ints_map, c_neNil, c_ne00, sz0, pt0, pt1, pt2, if_true, if_false, ite_true, ite_false, if_false_right, if_false_left, decide_eq_true_eq, Bool.not_eq_true', Bool.not_true, Bool.not_false, decide_eq_false_iff_not, Bool.false_eq_true, reduceCtorEq, true_and, and_true, Int.reduceLT, Int.reduceLE, Int.reducePow, Int.reduceNeg, Int.reduceMul, Int.reduceAdd, Int.reduceSub, Int.reduceToNat, Int.reduceEq, na10, Nat.reducePow, Nat.reduceLT, Nat.reduceLeDiff, Nat.reduceAdd, Nat.reduceSub, true_or, or_true, and_self]
  generalize hm : (if m < w then m else w) = m'
  have hm0 : 0 ≤ m' ∧ m' ≤ 12 := by split at hm <;> omega
  refine ⟨by unfold small62; simp; omega, ?_⟩
  refine Ok_lc (fun rest acc S => Dk R S ∧ ∀ d ∈ rest, ∃ i, d = .int i) (by simp [rangeD, sizeLine]; omega) ⟨k4, fun d hd => by
    obtain ⟨k, _, e⟩ := List.mem_map.mp hd
    exact ⟨_, e.symm⟩⟩ ?_ ?_
  · rintro d rest acc S ⟨hS, hi⟩
    obtain ⟨i, rfl⟩ := hi d (List.mem_cons_self ..)
    simp +decide only [Ok_cons, Ok_nil, SK_nx, SK_rt, FK_rt, FK_nx, evS, evE, evP, evEs, evQs, evPs, evO, evC, evI, Ok_bind, Ok_map, Ok_some, Ok_none, Ok_ite, getS, peekS, setS, wipeS, orc, permA, keyOf, List.map_cons, List.map_nil, List.cons_append, List.nil_append, List.append_nil, List.replicate, List.length_cons, List.length_nil, List.getElem?_cons_zero, List.getElem?_cons_succ, List.set_cons_zero, List.set_cons_succ, Option.map_some, Option.bind_some, asgT, asgTs, seqD, Ts.len, starD, List.take_succ_cons, List.take_zero, List.drop_succ_cons, List.drop_zero, List.take_nil, List.drop_nil, List.flatten_cons, List.flatten_nil, tp_n, tp_b, tp_i, tp_s, tp_t, tp_l, tp_d, tp_k, tp_c, tp_r0, tp_r1, ix_l, ix_t, ix_k, ix_d, ix_di, at0, at1, at2, at3, at4, at5, at6, at7, atm1, atm2, atm3, b_add, b_sub, b_mul, b_div, b_mod, b_pow, b_addT, b_addL, b_mulL, c_lt, c_le, c_gt, c_ge, c_eq, c_ne, c_eqs, c_nes, c_is, c_isnt, n_n, n_t, n_i, n_l, bl_b, int_i, f_len, f_lenT, f_min, f_max, f_abs, f_intB, f_int, f_tup, f_tupT, f_lst, f_lstT, f_sum, r_l0, r_l1, ints_map, c_neNil, c_ne00, sz0, pt0, pt1, pt2, if_true, if_false, ite_true, ite_false, if_false_right, if_false_left, decide_eq_true_eq, Bool.not_eq_true', Bool.not_true, Bool.not_false, decide_eq_false_iff_not, Bool.false_eq_true, reduceCtorEq, true_and, and_true, Int.reduceLT, Int.reduceLE, Int.reducePow, Int.reduceNeg, Int.reduceMul, Int.reduceAdd, Int.reduceSub, Int.reduceToNat, Int.reduceEq, na10, Nat.reducePow, Nat.reduceLT, Nat.reduceLeDiff, Nat.reduceAdd, Nat.reduceSub, true_or, or_true, and_self]
    refine draw_ok dr hS (by decide) (by decide) fun r S' r0 r1 h' => ?_
    simp +decide only [Ok_cons, Ok_nil, SK_nx, SK_rt, FK_rt, FK_nx, evS, evE, evP, evEs, evQs, evPs, evO, evC, evI, Ok_bind, Ok_map, Ok_some, Ok_none, Ok_ite, getS, peekS, setS, wipeS, orc, permA, keyOf, List.map_cons, List.map_nil, List.cons_append, List.nil_append, List.append_nil, List.replicate, List.length_cons, List.length_nil, List.getElem?_cons_zero, List.getElem?_cons_succ, List.set_cons_zero, List.set_cons_succ, Option.map_some, Option.bind_some, asgT, asgTs, seqD, Ts.len, starD, List.take_succ_cons, List.take_zero, List.drop_succ_cons, List.drop_zero, List.take_nil, List.drop_nil, List.flatten_cons, List.flatten_nil, tp_n, tp_b, tp_i, tp_s, tp_t, tp_l, tp_d, tp_k, tp_c, tp_r0, tp_r1, ix_l, ix_t, ix_k, ix_d, ix_di, at0, at1, at2, at3, at4, at5, at6, at7, atm1, atm2, atm3, b_add, b_sub, b_mul, b_div, b_mod, b_pow, b_addT, b_addL, b_mulL, c_lt, c_le, c_gt, c_ge, c_eq, c_ne, c_eqs, c_nes, c_is, c_isnt, n_n, n_t, n_i, n_l, bl_b, int_i, f_len, f_lenT, f_min, f_max, f_abs, f_intB, f_int, f_tup, f_tupT, f_lst, f_lstT, f_sum, r_l0, r_l1, ints_map, c_neNil, c_ne00, sz0, pt0, pt1, pt2, if_true, if_false, ite_true, ite_false, if_false_right, if_false_left, decide_eq_true_eq, Bool.not_eq_true', Bool.not_true, Bool.not_false, decide_eq_false_iff_not, Bool.false_eq_true, reduceCtorEq, true_and, and_true, Int.reduceLT, Int.reduceLE, Int.reducePow, Int.reduceNeg, Int.reduceMul, Int.reduceAdd, Int.reduceSub, Int.reduceToNat, Int.reduceEq, na10, Nat.reducePow, Nat.reduceLT, Nat.reduceLeDiff, Nat.reduceAdd, Nat.reduceSub, true_or, or_true, and_self]
    exact ⟨h', fun d hd => hi d (List.mem_cons_of_mem _ hd)⟩
  · rintro acc S ⟨hS, -⟩
    exact ⟨(show 3 < sizeLine by decide), q w h d _ _ w0 w1 h0 h1 d0 d1 hS⟩
/-- a box of the land -/
structure BOk (w h : Int) (b : Bx) : Prop where
  a0 : 0 ≤ b.a
  b0 : 0 ≤ b.b
  ac : b.a ≤ b.c
  bd : b.b ≤ b.d
  c1 : b.c < w
  d1 : b.d < h
theorem box_ok (hk : Dk R S) (w0 : 1 ≤ w) (w1 : w ≤ 12) (h0 : 1 ≤ h) (h1 : h ≤ 12) (q : ∀ b S', BOk w h b → Dk R S' → Q (b.t, S')) : Ok (callN prg (n + 3) 10 [.ref 1, someD w h d p] S) Q := by
  refine Ok_call (f := ⟨2, 4, b10⟩) rfl rfl ?_
  unfold b10 someD
  simp +decide only [Ok_cons, Ok_nil, SK_nx, SK_rt, FK_rt, FK_nx, evS, evE, evP, evEs, evQs, evPs, evO, evC, evI, Ok_bind, Ok_map, Ok_some, Ok_none, Ok_ite, getS, peekS, setS, wipeS, orc, permA, keyOf, List.map_cons, List.map_nil, List.cons_append, List.nil_append, List.append_nil, List.replicate, List.length_cons, List.length_nil, List.getElem?_cons_zero, List.getElem?_cons_succ, List.set_cons_zero, List.set_cons_succ, Option.map_some, Option.bind_some, asgT, asgTs, seqD, Ts.len, starD, List.take_succ_cons, List.take_zero, List.drop_succ_cons, List.drop_zero, List.take_nil, List.drop_nil, List.flatten_cons, List.flatten_nil, tp_n, tp_b, tp_i, tp_s, tp_t, tp_l, tp_d, tp_k, tp_c, tp_r0, tp_r1, ix_l, ix_t, ix_k, ix_d, ix_di, at0, at1, at2, at3, at4, at5, at6, at7, atm1, atm2, atm3, b_add, b_sub, b_mul, b_div, b_mod, b_pow, b_addT, b_addL, b_mulL, c_lt, c_le, c_gt, c_ge, c_eq, c_ne, c_eqs, c_nes, c_is, c_isnt, n_n, n_t, n_i, n_l, bl_b, int_i, f_len, f_lenT, f_min, f_max, f_abs, f_intB, f_int, f_tup, f_tupT, f_lst, f_lstT, f_sum, r_l0, r_l1, ints_map, c_neNil, c_ne00, sz0, pt0, pt1, pt2, if_true, if_false, ite_true, ite_false, if_false_right, if_false_left, decide_eq_true_eq, Bool.not_eq_true', Bool.not_true, Bool.not_false, decide_eq_false_iff_not, Bool.false_eq_true, reduceCtorEq, true_and, and_true, Int.reduceLT, Int.reduceLE, Int.reducePow, Int.reduceNeg, Int.reduceMul, Int.reduceAdd, Int.reduceSub, Int.reduceToNat, Int.reduceEq, na10, Nat.reducePow, Nat.reduceLT, Nat.reduceLeDiff, Nat.reduceAdd, Nat.reduceSub, true_or, or_true, and_self, lkW, lkH, lkD]
  refine bounds_ok bd dr hk (by omega) (by omega) fun a S1 a0 a1 k1 => ?_
  simp +decide only [Ok_cons, Ok_nil, SK_nx, SK_rt, FK_rt, FK_nx, evS, evE, evP, evEs, evQs, evPs, evO, evC, evI, Ok_bind, Ok_map, Ok_some, Ok_none, Ok_ite, getS, peekS, setS, wipeS, orc, permA, keyOf, List.map_cons, List.map_nil, List.cons_append, List.nil_append, List.append_nil, List.replicate, List.length_cons, List.length_nil, List.getElem?_cons_zero, List.getElem?_cons_succ, List.set_cons_zero, List.set_cons_succ, Option.map_some, Option.bind_some, asgT, asgTs, seqD, Ts.len, starD, List.take_succ_cons, List.take_zero, List.drop_succ_cons, List.drop_zero, List.take_nil, List.drop_nil, List.flatten_cons, List.flatten_nil, tp_n, tp_b, tp_i, tp_s, tp_t, tp_l, tp_d, tp_k, tp_c, tp_r0, tp_r1, ix_l, ix_t, ix_k, ix_d, ix_di, at0, at1, at2, at3, at4, at5, at6, at7, atm1, atm2, atm3, b_add, b_sub, b_mul, b_div, b_mod, b_pow, b_addT, b_addL, b_mulL, c_lt, c_le, c_gt, c_ge, c_eq, c_ne, c_eqs, c_nes, c_is, c_isnt, n_n, n_t, n_i, n_l, bl_b, int_i, f_len, f_lenT, f_min, f_max, f_abs, f_intB, f_int, f_tup, f_tupT, f_lst, f_lstT, f_sum, r_l0, r_l1, ints_map, c_neNil, c_ne00, sz0, pt0, pt1, pt2, if_true, if_false, ite_true, ite_false, if_false_right, if_false_left, decide_eq_true_eq, Bool.not_eq_true', Bool.not_true, Bool.not_false, decide_eq_false_iff_not, Bool.false_eq_true, reduceCtorEq, true_and, and_true, Int.reduceLT, Int.reduceLE, Int.reducePow, Int.reduceNeg, Int.reduceMul, Int.reduceAdd, Int.reduceSub, Int.reduceToNat, Int.reduceEq, na10, Nat.reducePow, Nat.reduceLT, Nat.reduceLeDiff, Nat.reduceAdd, Nat.reduceSub, true_or, or_true, and_self, lkW, lkH, lkD]
  refine bounds_ok bd dr k1 (by omega) (by omega) fun b S2 b0 b1 k2 => ?_
  simp +decide only [Ok_cons, Ok_nil, SK_nx, SK_rt, FK_rt, FK_nx, evS, evE, evP, evEs, evQs, evPs, evO, evC, evI, Ok_bind, Ok_map, Ok_some, Ok_none, Ok_ite, getS, peekS, setS, wipeS, orc, permA, keyOf, List.map_cons, List.map_nil, List.cons_append, List.nil_append, List.append_nil, List.replicate, List.length_cons, List.length_nil, List.getElem?_cons_zero, List.getElem?_cons_succ, List.set_cons_zero, List.set_cons_succ, Option.map_some, Option.bind_some, asgT, asgTs, seqD, Ts.len, starD, List.take_succ_cons, List.take_zero, List.drop_succ_cons, List.drop_zero, List.take_nil, List.drop_nil, List.flatten_cons, List.flatten_nil, tp_n, tp_b, tp_i, tp_s, tp_t, tp_l, tp_d, tp_k, tp_c, tp_r0, tp_r1, ix_l, ix_t, ix_k, ix_d, ix_di, at0, at1, at2, at3, at4, at5, at6, at7, atm1, atm2, atm3, b_add, b_sub, b_mul, b_div, b_mod, b_pow, b_addT, b_addL, b_mulL, c_lt, c_le, c_gt, c_ge, c_eq, c_ne, c_eqs, c_nes, c_is, c_isnt, n_n, n_t, n_i, n_l, bl_b, int_i, f_len, f_lenT, f_min, f_max, f_abs, f_intB, f_int, f_tup, f_tupT, f_lst, f_lstT, f_sum, r_l0, r_l1, ints_map, c_neNil, c_ne00, sz0, pt0, pt1, pt2, if_true, if_false, ite_true, ite_false, if_false_right, if_false_left, decide_eq_true_eq, Bool.not_eq_true', Bool.not_true, Bool.not_false, decide_eq_false_iff_not, Bool.false_eq_true, reduceCtorEq, true_and, and_true, Int.reduceLT, Int.reduceLE, Int.reducePow, Int.reduceNeg, Int.reduceMul, Int.reduceAdd, Int.reduceSub, Int.reduceToNat, Int.reduceEq, na10, Nat.reducePow, Nat.reduceLT, Nat.reduceLeDiff, Nat.reduceAdd, Nat.reduceSub, true_or, or_true, and_self, lkW, lkH, lkD]
  refine bounds_ok bd dr k2 (by omega) (by omega) fun c S3 c0 c1 k3 => ?_
  simp +decide only [Ok_cons, Ok_nil, SK_nx, SK_rt, FK_rt, FK_nx, evS, evE, evP, evEs, evQs, evPs, evO, evC, evI, Ok_bind, Ok_map, Ok_some, Ok_none, Ok_ite, getS, peekS, setS, wipeS, orc, permA, keyOf, List.map_cons, List.map_nil, List.cons_append, List.nil_append, List.append_nil, List.replicate, List.length_cons, List.length_nil, List.getElem?_cons_zero, List.getElem?_cons_succ, List.set_cons_zero, List.set_cons_succ, Option.map_some, Option.bind_some, asgT, asgTs, seqD, Ts.len, starD, List.take_succ_cons, List.take_zero, List.drop_succ_cons, List.drop_zero, List.take_nil, List.drop_nil, List.flatten_cons, List.flatten_nil, tp_n, tp_b, tp_i, tp_s, tp_t, tp_l, tp_d, tp_k, tp_c, tp_r0, tp_r1, ix_l, ix_t, ix_k, ix_d, ix_di, at0, at1, at2, at3, at4, at5, at6, at7, atm1, atm2, atm3, b_add, b_sub, b_mul, b_div, b_mod, b_pow, b_addT, b_addL, b_mulL, c_lt, c_le, c_gt, c_ge, c_eq, c_ne, c_eqs, c_nes, c_is, c_isnt, n_n, n_t, n_i, n_l, bl_b, int_i, f_len, f_lenT, f_min, f_max, f_abs, f_intB, f_int, f_tup, f_tupT, f_lst, f_lstT, f_sum, r_l0, r_l1, ints_map, c_neNil, c_ne00, sz0, pt0, pt1, pt2, if_true, if_false, ite_true, ite_false, if_false_right, if_false_left, decide_eq_true_eq, Bool.not_eq_true', Bool.not_true, Bool.not_false, decide_eq_false_iff_not, Bool.false_eq_true, reduceCtorEq, true_and, and_true, Int.reduceLT, Int.reduceLE, Int.reducePow, Int.reduceNeg, Int.reduceMul, Int.reduceAdd, Int.reduceSub, Int.reduceToNat, Int.reduceEq, na10, Nat.reducePow, Nat.reduceLT, Nat.reduceLeDiff, Nat.reduceAdd, Nat.reduceSub, true_or, or_true, and_self, lkW, lkH, lkD]
  refine bounds_ok bd dr k3 (by omega) (by omega) fun e S4 e0 e1 k4 => ?_
  simp +decide only [Ok_cons, Ok_nil, SK_nx, SK_rt, FK_rt, FK_nx, evS, evE, evP, evEs, evQs, evPs, evO, evC, evI, Ok_bind, Ok_map, Ok_some, Ok_none, Ok_ite, getS, peekS, setS, wipeS, orc, permA, keyOf, List.map_cons, List.map_nil, List.cons_append, List.nil_append, List.append_nil, List.replicate, List.length_cons, List.length_nil, List.getElem?_cons_zero, List.getElem?_cons_succ, List.set_cons_zero, List.set_cons_succ, Option.map_some, Option.bind_some, asgT, asgTs, seqD, Ts.len, starD, List.take_succ_cons, List.take_zero, List.drop_succ_cons, List.drop_zero, List.take_nil, List.drop_nil, List.flatten_cons, List.flatten_nil, tp_n, tp_b, tp_i, tp_s, tp_t, tp_l, tp_d, tp_k, tp_c, tp_r0, tp_r1, ix_l, ix_t, ix_k, ix_d, ix_di, at0, at1, at2, at3, at4, at5, at6, at7, atm1, atm2, atm3, b_add, b_sub, b_mul, b_div, b_mod, b_pow, b_addT, b_addL, b_mulL, c_lt, c_le, c_gt, c_ge, c_eq, c_ne, c_eqs, c_nes, c_is, c_isnt, n_n, n_t, n_i, n_l, bl_b, int_i, f_len, f_lenT, f_min, f_max, f_abs, f_intB, f_int, f_tup, f_tupT, f_lst, f_lstT, f_sum, r_l0, r_l1, ints_map, c_neNil, c_ne00, sz0, pt0, pt1, pt2, if_true, if_false, ite_true, ite_false, if_false_right, if_false_left, decide_eq_true_eq, Bool.not_eq_true', Bool.not_true, Bool.not_false, decide_eq_false_iff_not, Bool.false_eq_true, reduceCtorEq, true_and, and_true, Int.reduceLT, Int.reduceLE, Int.reducePow, Int.reduceNeg, Int.reduceMul, Int.reduceAdd, Int.reduceSub, Int.reduceToNat, Int.reduceEq, na10, Nat.reducePow, Nat.reduceLT, Nat.reduceLeDiff, Nat.reduceAdd, Nat.reduceSub, true_or, or_true, and_self, lkW, lkH, lkD]
  exact q ⟨a, b, c, e⟩ S4 ⟨a0, b0, c0, e0, by show c < w; omega, by show e < h; omega⟩ k4
/-- a task as the law makes them -/
structure TOk (w h : Int) (t : Tk) : Prop where
  box : ∀ b ∈ (match t with | .no => [] | .look b _ _ => [b] | .bring b o _ _ _ => [b, o] | .over b _ _ _ => [b]), BOk w h b
  hrs : (match t with | .no => True | .look _ f l => 0 ≤ f ∧ f ≤ l ∧ l ≤ 24 | .bring _ _ n f l => 0 ≤ n ∧ n ≤ 9 ∧ 0 ≤ f ∧ f ≤ l ∧ l ≤ 24 | .over _ n f l => 1 ≤ n ∧ n ≤ 9 ∧ 0 ≤ f ∧ f ≤ l ∧ l ≤ 24)
theorem tasks_ok (hk : Dk R S) (w0 : 1 ≤ w) (w1 : w ≤ 12) (h0 : 1 ≤ h) (h1 : h ≤ 12) (d0 : 1 ≤ d) (d1 : d ≤ 24) (q : ∀ (ts : List Tk) S', (∀ t ∈ ts, TOk w h t) → ts.length = 3 → Dk R S' → Q (.lst (ts.map Tk.t), S')) : Ok (callN prg (n + 4) 11 [.ref 1, someD w h d p] S) Q := by
  refine Ok_call (f := ⟨2, 9, b11⟩) rfl rfl ?_
  unfold b11
  simp +decide only [Ok_cons, Ok_nil, SK_nx, SK_rt, FK_rt, FK_nx, evS, evE, evP, evEs, evQs, evPs, evO, evC, evI, Ok_bind, Ok_map, Ok_some, Ok_none, Ok_ite, getS, peekS, setS, wipeS, orc, permA, keyOf, List.map_cons, List.map_nil, List.cons_append, List.nil_append, List.append_nil, List.replicate, List.length_cons, List.length_nil, List.getElem?_cons_zero, List.getElem?_cons_succ, List.set_cons_zero, List.set_cons_succ, Option.map_some, Option.bind_some, asgT, asgTs, seqD, Ts.len, starD, List.take_succ_cons, List.take_zero, List.drop_succ_cons, List.drop_zero, List.take_nil, List.drop_nil, List.flatten_cons, List.flatten_nil, tp_n, tp_b, tp_i, tp_s, tp_t, tp_l, tp_d, tp_k, tp_c, tp_r0, tp_r1, ix_l, ix_t, ix_k, ix_d, ix_di, at0, at1, at2, at3, at4, at5, at6, at7, atm1, atm2, atm3, b_add, b_sub, b_mul, b_div, b_mod, b_pow, b_addT, b_addL, b_mulL, c_lt, c_le, c_gt, c_ge, c_eq, c_ne, c_eqs, c_nes, c_is, c_isnt, n_n, n_t, n_i, n_l, bl_b, int_i, f_len, f_lenT, f_min, f_max, f_abs, f_intB, f_int, f_tup, f_tupT, f_lst, f_lstT, f_sum, r_l0, r_l1, ints_map, c_neNil, c_ne00, sz0, pt0, pt1, pt2, if_true, if_false, ite_true, ite_false, if_false_right, if_false_left, decide_eq_true_eq, Bool.not_eq_true', Bool.not_true, Bool.not_false, decide_eq_false_iff_not, Bool.false_eq_true, reduceCtorEq, true_and, and_true, Int.reduceLT, Int.reduceLE, Int.reducePow, Int.reduceNeg, Int.reduceMul, Int.reduceAdd, Int.reduceSub, Int.reduceToNat, Int.reduceEq, na10, Nat.reducePow, Nat.reduceLT, Nat.reduceLeDiff, Nat.reduceAdd, Nat.reduceSub, true_or, or_true, and_self]
  refine Ok_fr (fun rest env S => Dk R S ∧ ∃ (ts : List Tk) (a b c e f g : Sl), (∀ t ∈ ts, TOk w h t) ∧ ts.length ≤ 3 ∧ rest = [D.int 0, .int 1, .int 2].drop ts.length ∧ env = [.fz (.ref 1), .fz (someD w h d p), .ol (ts.map Tk.t), a, b, c, e, f, g])
    ⟨hk, [], .un, .un, .un, .un, .un, .un, by simp, by simp, rfl, rfl⟩ ?_ ?_
  · rintro x rest env S ⟨hS, ts, a, b, c, e, f, g, ht, hl, hr, rfl⟩
    have hx : x = .int ts.length ∧ rest = [D.int 0, .int 1, .int 2].drop (ts.length + 1) ∧ ts.length < 3 := by
      rcases ts with _ | ⟨t1, _ | ⟨t2, _ | ⟨t3, _ | ⟨t4, r⟩⟩⟩⟩ <;> simp at hr hl ⊢ <;> first | exact hr | omega
    obtain ⟨rfl, rfl, hlt⟩ := hx
    unfold someD
    simp +decide only [Ok_cons, Ok_nil, SK_nx, SK_rt, FK_rt, FK_nx, evS, evE, evP, evEs, evQs, evPs, evO, evC, evI, Ok_bind, Ok_map, Ok_some, Ok_none, Ok_ite, getS, peekS, setS, wipeS, orc, permA, keyOf, List.map_cons, List.map_nil, List.cons_append, List.nil_append, List.append_nil, List.replicate, List.length_cons, List.length_nil, List.getElem?_cons_zero, List.getElem?_cons_succ, List.set_cons_zero, List.set_cons_succ, Option.map_some, Option.bind_some, asgT, asgTs, seqD, Ts.len, starD, List.take_succ_cons, List.take_zero, List.drop_succ_cons, List.drop_zero, List.take_nil, List.drop_nil, List.flatten_cons, List.flatten_nil, tp_n, tp_b, tp_i, tp_s, tp_t, tp_l, tp_d, tp_k, tp_c, tp_r0, tp_r1, ix_l, ix_t, ix_k, ix_d, ix_di, at0, at1, at2, at3, at4, at5, at6, at7, atm1, atm2, atm3, b_add, b_sub, b_mul, b_div, b_mod, b_pow, b_addT, b_addL, b_mulL, c_lt, c_le, c_gt, c_ge, c_eq, c_ne, c_eqs, c_nes, c_is, c_isnt, n_n, n_t, n_i, n_l, bl_b, int_i, f_len, f_lenT, f_min, f_max, f_abs, f_intB, f_int, f_tup, f_tupT, f_lst, f_lstT, f_sum, r_l0, r_l1, ints_map, c_neNil, c_ne00, sz0, pt0, pt1, pt2, if_true, if_false, ite_true, ite_false, if_false_right, if_false_left, decide_eq_true_eq, Bool.not_eq_true', Bool.not_true, Bool.not_false, decide_eq_false_iff_not, Bool.false_eq_true, reduceCtorEq, true_and, and_true, Int.reduceLT, Int.reduceLE, Int.reducePow, Int.reduceNeg, Int.reduceMul, Int.reduceAdd, Int.reduceSub, Int.reduceToNat, Int.reduceEq, na10, Nat.reducePow, Nat.reduceLT, Nat.reduceLeDiff, Nat.reduceAdd, Nat.reduceSub, true_or, or_true, and_self, lkW, lkH, lkD]
    refine bounds_ok bd dr hS (by omega) (by omega) fun f S1 f0 f1 k1 => ?_
    simp +decide only [Ok_cons, Ok_nil, SK_nx, SK_rt, FK_rt, FK_nx, evS, evE, evP, evEs, evQs, evPs, evO, evC, evI, Ok_bind, Ok_map, Ok_some, Ok_none, Ok_ite, getS, peekS, setS, wipeS, orc, permA, keyOf, List.map_cons, List.map_nil, List.cons_append, List.nil_append, List.append_nil, List.replicate, List.length_cons, List.length_nil, List.getElem?_cons_zero, List.getElem?_cons_succ, List.set_cons_zero, List.set_cons_succ, Option.map_some, Option.bind_some, asgT, asgTs, seqD, Ts.len, starD, List.take_succ_cons, List.take_zero, List.drop_succ_cons, List.drop_zero, List.take_nil, List.drop_nil, List.flatten_cons, List.flatten_nil, tp_n, tp_b, tp_i, tp_s, tp_t, tp_l, tp_d, tp_k, tp_c, tp_r0, tp_r1, ix_l, ix_t, ix_k, ix_d, ix_di, at0, at1, at2, at3, at4, at5, at6, at7, atm1, atm2, atm3, b_add, b_sub, b_mul, b_div, b_mod, b_pow, b_addT, b_addL, b_mulL, c_lt, c_le, c_gt, c_ge, c_eq, c_ne, c_eqs, c_nes, c_is, c_isnt, n_n, n_t, n_i, n_l, bl_b, int_i, f_len, f_lenT, f_min, f_max, f_abs, f_intB, f_int, f_tup, f_tupT, f_lst, f_lstT, f_sum, r_l0, r_l1, ints_map, c_neNil, c_ne00, sz0, pt0, pt1, pt2, if_true, if_false, ite_true, ite_false, if_false_right, if_false_left, decide_eq_true_eq, Bool.not_eq_true', Bool.not_true, Bool.not_false, decide_eq_false_iff_not, Bool.false_eq_true, reduceCtorEq, true_and, and_true, Int.reduceLT, Int.reduceLE, Int.reducePow, Int.reduceNeg, Int.reduceMul, Int.reduceAdd, Int.reduceSub, Int.reduceToNat, Int.reduceEq, na10, Nat.reducePow, Nat.reduceLT, Nat.reduceLeDiff, Nat.reduceAdd, Nat.reduceSub, true_or, or_true, and_self, lkW, lkH, lkD]
    refine bounds_ok bd dr k1 (by omega) (by omega) fun l S2 l0 l1 k2 => ?_
    simp +decide only [Ok_cons, Ok_nil, SK_nx, SK_rt, FK_rt, FK_nx, evS, evE, evP, evEs, evQs, evPs, evO, evC, evI, Ok_bind, Ok_map, Ok_some, Ok_none, Ok_ite, getS, peekS, setS, wipeS, orc, permA, keyOf, List.map_cons, List.map_nil, List.cons_append, List.nil_append, List.append_nil, List.replicate, List.length_cons, List.length_nil, List.getElem?_cons_zero, List.getElem?_cons_succ, List.set_cons_zero, List.set_cons_succ, Option.map_some, Option.bind_some, asgT, asgTs, seqD, Ts.len, starD, List.take_succ_cons, List.take_zero, List.drop_succ_cons, List.drop_zero, List.take_nil, List.drop_nil, List.flatten_cons, List.flatten_nil, tp_n, tp_b, tp_i, tp_s, tp_t, tp_l, tp_d, tp_k, tp_c, tp_r0, tp_r1, ix_l, ix_t, ix_k, ix_d, ix_di, at0, at1, at2, at3, at4, at5, at6, at7, atm1, atm2, atm3, b_add, b_sub, b_mul, b_div, b_mod, b_pow, b_addT, b_addL, b_mulL, c_lt, c_le, c_gt, c_ge, c_eq, c_ne, c_eqs, c_nes, c_is, c_isnt, n_n, n_t, n_i, n_l, bl_b, int_i, f_len, f_lenT, f_min, f_max, f_abs, f_intB, f_int, f_tup, f_tupT, f_lst, f_lstT, f_sum, r_l0, r_l1, ints_map, c_neNil, c_ne00, sz0, pt0, pt1, pt2, if_true, if_false, ite_true, ite_false, if_false_right, if_false_left, decide_eq_true_eq, Bool.not_eq_true', Bool.not_true, Bool.not_false, decide_eq_false_iff_not, Bool.false_eq_true, reduceCtorEq, true_and, and_true, Int.reduceLT, Int.reduceLE, Int.reducePow, Int.reduceNeg, Int.reduceMul, Int.reduceAdd, Int.reduceSub, Int.reduceToNat, Int.reduceEq, na10, Nat.reducePow, Nat.reduceLT, Nat.reduceLeDiff, Nat.reduceAdd, Nat.reduceSub, true_or, or_true, and_self, lkW, lkH, lkD]
    refine box_ok k2 w0 w1 h0 h1 fun b1 S3 hb1 k3 => ?_
    simp +decide only [Ok_cons, Ok_nil, SK_nx, SK_rt, FK_rt, FK_nx, evS, evE, evP, evEs, evQs, evPs, evO, evC, evI, Ok_bind, Ok_map, Ok_some, Ok_none, Ok_ite, getS, peekS, setS, wipeS, orc, permA, keyOf, List.map_cons, List.map_nil, List.cons_append, List.nil_append, List.append_nil, List.replicate, List.length_cons, List.length_nil, List.getElem?_cons_zero, List.getElem?_cons_succ, List.set_cons_zero, List.set_cons_succ, Option.map_some, Option.bind_some, asgT, asgTs, seqD, Ts.len, starD, List.take_succ_cons, List.take_zero, List.drop_succ_cons, List.drop_zero, List.take_nil, List.drop_nil, List.flatten_cons, List.flatten_nil, tp_n, tp_b, tp_i, tp_s, tp_t, tp_l, tp_d, tp_k, tp_c, tp_r0, tp_r1, ix_l, ix_t, ix_k, ix_d, ix_di, at0, at1, at2, at3, at4, at5, at6, at7, atm1, atm2, atm3, b_add, b_sub, b_mul, b_div, b_mod, b_pow, b_addT, b_addL, b_mulL, c_lt, c_le, c_gt, c_ge, c_eq, c_ne, c_eqs, c_nes, c_is, c_isnt, n_n, n_t, n_i, n_l, bl_b, int_i, f_len, f_lenT, f_min, f_max, f_abs, f_intB, f_int, f_tup, f_tupT, f_lst, f_lstT, f_sum, r_l0, r_l1, ints_map, c_neNil, c_ne00, sz0, pt0, pt1, pt2, if_true, if_false, ite_true, ite_false, if_false_right, if_false_left, decide_eq_true_eq, Bool.not_eq_true', Bool.not_true, Bool.not_false, decide_eq_false_iff_not, Bool.false_eq_true, reduceCtorEq, true_and, and_true, Int.reduceLT, Int.reduceLE, Int.reducePow, Int.reduceNeg, Int.reduceMul, Int.reduceAdd, Int.reduceSub, Int.reduceToNat, Int.reduceEq, na10, Nat.reducePow, Nat.reduceLT, Nat.reduceLeDiff, Nat.reduceAdd, Nat.reduceSub, true_or, or_true, and_self, lkW, lkH, lkD]
    refine box_ok k3 w0 w1 h0 h1 fun b2 S4 hb2 k4 => ?_
    simp +decide only [Ok_cons, Ok_nil, SK_nx, SK_rt, FK_rt, FK_nx, evS, evE, evP, evEs, evQs, evPs, evO, evC, evI, Ok_bind, Ok_map, Ok_some, Ok_none, Ok_ite, getS, peekS, setS, wipeS, orc, permA, keyOf, List.map_cons, List.map_nil, List.cons_append, List.nil_append, List.append_nil, List.replicate, List.length_cons, List.length_nil, List.getElem?_cons_zero, List.getElem?_cons_succ, List.set_cons_zero, List.set_cons_succ, Option.map_some, Option.bind_some, asgT, asgTs, seqD, Ts.len, starD, List.take_succ_cons, List.take_zero, List.drop_succ_cons, List.drop_zero, List.take_nil, List.drop_nil, List.flatten_cons, List.flatten_nil, tp_n, tp_b, tp_i, tp_s, tp_t, tp_l, tp_d, tp_k, tp_c, tp_r0, tp_r1, ix_l, ix_t, ix_k, ix_d, ix_di, at0, at1, at2, at3, at4, at5, at6, at7, atm1, atm2, atm3, b_add, b_sub, b_mul, b_div, b_mod, b_pow, b_addT, b_addL, b_mulL, c_lt, c_le, c_gt, c_ge, c_eq, c_ne, c_eqs, c_nes, c_is, c_isnt, n_n, n_t, n_i, n_l, bl_b, int_i, f_len, f_lenT, f_min, f_max, f_abs, f_intB, f_int, f_tup, f_tupT, f_lst, f_lstT, f_sum, r_l0, r_l1, ints_map, c_neNil, c_ne00, sz0, pt0, pt1, pt2, if_true, if_false, ite_true, ite_false, if_false_right, if_false_left, decide_eq_true_eq, Bool.not_eq_true', Bool.not_true, Bool.not_false, decide_eq_false_iff_not, Bool.false_eq_true, reduceCtorEq, true_and, and_true, Int.reduceLT, Int.reduceLE, Int.reducePow, Int.reduceNeg, Int.reduceMul, Int.reduceAdd, Int.reduceSub, Int.reduceToNat, Int.reduceEq, na10, Nat.reducePow, Nat.reduceLT, Nat.reduceLeDiff, Nat.reduceAdd, Nat.reduceSub, true_or, or_true, and_self, lkW, lkH, lkD]
    refine bounds_ok bd dr k4 (by omega) (by omega) fun m S5 m0 m1 k5 => ?_
    simp +decide only [Ok_cons, Ok_nil, SK_nx, SK_rt, FK_rt, FK_nx, evS, evE, evP, evEs, evQs, evPs, evO, evC, evI, Ok_bind, Ok_map, Ok_some, Ok_none, Ok_ite, getS, peekS, setS, wipeS, orc, permA, keyOf, List.map_cons, List.map_nil, List.cons_append, List.nil_append, List.append_nil, List.replicate, List.length_cons, List.length_nil, List.getElem?_cons_zero, List.getElem?_cons_succ, List.set_cons_zero, List.set_cons_succ, Option.map_some, Option.bind_some, asgT, asgTs, seqD, Ts.len, starD, List.take_succ_cons, List.take_zero, List.drop_succ_cons, List.drop_zero, List.take_nil, List.drop_nil, List.flatten_cons, List.flatten_nil, tp_n, tp_b, tp_i, tp_s, tp_t, tp_l, tp_d, tp_k, tp_c, tp_r0, tp_r1, ix_l, ix_t, ix_k, ix_d, ix_di, at0, at1, at2, at3, at4, at5, at6, at7, atm1, atm2, atm3, b_add, b_sub, b_mul, b_div, b_mod, b_pow, b_addT, b_addL, b_mulL, c_lt, c_le, c_gt, c_ge, c_eq, c_ne, c_eqs, c_nes, c_is, c_isnt, n_n, n_t, n_i, n_l, bl_b, int_i, f_len, f_lenT, f_min, f_max, f_abs, f_intB, f_int, f_tup, f_tupT, f_lst, f_lstT, f_sum, r_l0, r_l1, ints_map, c_neNil, c_ne00, sz0, pt0, pt1, pt2, if_true, if_false, ite_true, ite_false, if_false_right, if_false_left, decide_eq_true_eq, Bool.not_eq_true', Bool.not_true, Bool.not_false, decide_eq_false_iff_not, Bool.false_eq_true, reduceCtorEq, true_and, and_true, Int.reduceLT, Int.reduceLE, Int.reducePow, Int.reduceNeg, Int.reduceMul, Int.reduceAdd, Int.reduceSub, Int.reduceToNat, Int.reduceEq, na10, Nat.reducePow, Nat.reduceLT, Nat.reduceLeDiff, Nat.reduceAdd, Nat.reduceSub, true_or, or_true, and_self, lkW, lkH, lkD]
    refine bounds_ok bd dr k5 (by omega) (by omega) fun o S6 o0 o1 k6 => ?_
    simp +decide only [Ok_cons, Ok_nil, SK_nx, SK_rt, FK_rt, FK_nx, evS, evE, evP, evEs, evQs, evPs, evO, evC, evI, Ok_bind, Ok_map, Ok_some, Ok_none, Ok_ite, getS, peekS, setS, wipeS, orc, permA, keyOf, List.map_cons, List.map_nil, List.cons_append, List.nil_append, List.append_nil, List.replicate, List.length_cons, List.length_nil, List.getElem?_cons_zero, List.getElem?_cons_succ, List.set_cons_zero, List.set_cons_succ, Option.map_some, Option.bind_some, asgT, asgTs, seqD, Ts.len, starD, List.take_succ_cons, List.take_zero, List.drop_succ_cons, List.drop_zero, List.take_nil, List.drop_nil, List.flatten_cons, List.flatten_nil, tp_n, tp_b, tp_i, tp_s, tp_t, tp_l, tp_d, tp_k, tp_c, tp_r0, tp_r1, ix_l, ix_t, ix_k, ix_d, ix_di, at0, at1, at2, at3, at4, at5, at6, at7, atm1, atm2, atm3, b_add, b_sub, b_mul, b_div, b_mod, b_pow, b_addT, b_addL, b_mulL, c_lt, c_le, c_gt, c_ge, c_eq, c_ne, c_eqs, c_nes, c_is, c_isnt, n_n, n_t, n_i, n_l, bl_b, int_i, f_len, f_lenT, f_min, f_max, f_abs, f_intB, f_int, f_tup, f_tupT, f_lst, f_lstT, f_sum, r_l0, r_l1, ints_map, c_neNil, c_ne00, sz0, pt0, pt1, pt2, if_true, if_false, ite_true, ite_false, if_false_right, if_false_left, decide_eq_true_eq, Bool.not_eq_true', Bool.not_true, Bool.not_false, decide_eq_false_iff_not, Bool.false_eq_true, reduceCtorEq, true_and, and_true, Int.reduceLT, Int.reduceLE, Int.reducePow, Int.reduceNeg, Int.reduceMul, Int.reduceAdd, Int.reduceSub, Int.reduceToNat, Int.reduceEq, na10, Nat.reducePow, Nat.reduceLT, Nat.reduceLeDiff, Nat.reduceAdd, Nat.reduceSub, true_or, or_true, and_self, lkW, lkH, lkD]
    refine Ok_at (by omega) (by simp only [List.length_cons, List.length_nil]; omega) fun x _ mx => ?_
    have fin : ∀ tk : Tk, TOk w h tk → (∀ t ∈ ts ++ [tk], TOk w h t) ∧ (ts ++ [tk]).length ≤ 3 ∧ List.drop ts.length [D.int 1, D.int 2] = List.drop (ts ++ [tk]).length [D.int 0, D.int 1, D.int 2] ∧ List.map Tk.t ts ++ [tk.t] = List.map Tk.t (ts ++ [tk]) := fun tk hk => by
      refine ⟨fun t m => ?_, by rw [List.length_append]; simp; omega, by rw [List.length_append]; rfl, by rw [List.map_append]; rfl⟩
      rcases List.mem_append.mp m with m | m
      · exact ht t m
      · rw [List.mem_singleton.mp m]; exact hk
    have sz : (List.map Tk.t ts).length < sizeLine := by rw [List.length_map]; unfold sizeLine; omega
    simp only [List.mem_cons, List.not_mem_nil, or_false] at mx
    rcases mx with rfl | rfl | rfl
    · have z := fin (.look b1 f l) ⟨by simpa using hb1, ⟨f0, l0, by omega⟩⟩
      simp +decide only [Ok_cons, Ok_nil, SK_nx, SK_rt, FK_rt, FK_nx, evS, evE, evP, evEs, evQs, evPs, evO, evC, evI, Ok_bind, Ok_map, Ok_some, Ok_none, Ok_ite, getS, peekS, setS, wipeS, orc, permA, keyOf, List.map_cons, List.map_nil, List.cons_append, List.nil_append, List.append_nil, List.replicate, List.length_cons, List.length_nil, List.getElem?_cons_zero, List.getElem?_cons_succ, List.set_cons_zero, List.set_cons_succ, Option.map_some, Option.bind_some, asgT, asgTs, seqD, Ts.len, starD, List.take_succ_cons, List.take_zero, List.drop_succ_cons, List.drop_zero, List.take_nil, List.drop_nil, List.flatten_cons, List.flatten_nil, tp_n, tp_b, tp_i, tp_s, tp_t, tp_l, tp_d, tp_k, tp_c, tp_r0, tp_r1, ix_l, ix_t, ix_k, ix_d, ix_di, at0, at1, at2, at3, at4, at5, at6, at7, atm1, atm2, atm3, b_add, b_sub, b_mul, b_div, b_mod, b_pow, b_addT, b_addL, b_mulL, c_lt, c_le, c_gt, c_ge, c_eq, c_ne, c_eqs, c_nes, c_is, c_isnt, n_n, n_t, n_i, n_l, bl_b, int_i, f_len, f_lenT, f_min, f_max, f_abs, f_intB, f_int, f_tup, f_tupT, f_lst, f_lstT, f_sum, r_l0, r_l1, ints_map, c_neNil, c_ne00, sz0, pt0, pt1, pt2, if_true, if_false, ite_true, ite_false, if_false_right, if_false_left, decide_eq_true_eq, Bool.not_eq_true', Bool.not_true, Bool.not_false, decide_eq_false_iff_not, Bool.false_eq_true, reduceCtorEq, true_and, and_true, Int.reduceLT, Int.reduceLE, Int.reducePow, Int.reduceNeg, Int.reduceMul, Int.reduceAdd, Int.reduceSub, Int.reduceToNat, Int.reduceEq, na10, Nat.reducePow, Nat.reduceLT, Nat.reduceLeDiff, Nat.reduceAdd, Nat.reduceSub, true_or, or_true, and_self]
      exact ⟨sz, k6, ts ++ [.look b1 f l], _, _, _, _, _, _, z.1, z.2.1, z.2.2.1, by rw [← z.2.2.2]; rfl⟩
    · have z := fin (.bring b1 b2 m f l) ⟨by simpa using ⟨hb1, hb2⟩, ⟨m0, m1, f0, l0, by omega⟩⟩
      simp +decide only [Ok_cons, Ok_nil, SK_nx, SK_rt, FK_rt, FK_nx, evS, evE, evP, evEs, evQs, evPs, evO, evC, evI, Ok_bind, Ok_map, Ok_some, Ok_none, Ok_ite, getS, peekS, setS, wipeS, orc, permA, keyOf, List.map_cons, List.map_nil, List.cons_append, List.nil_append, List.append_nil, List.replicate, List.length_cons, List.length_nil, List.getElem?_cons_zero, List.getElem?_cons_succ, List.set_cons_zero, List.set_cons_succ, Option.map_some, Option.bind_some, asgT, asgTs, seqD, Ts.len, starD, List.take_succ_cons, List.take_zero, List.drop_succ_cons, List.drop_zero, List.take_nil, List.drop_nil, List.flatten_cons, List.flatten_nil, tp_n, tp_b, tp_i, tp_s, tp_t, tp_l, tp_d, tp_k, tp_c, tp_r0, tp_r1, ix_l, ix_t, ix_k, ix_d, ix_di, at0, at1, at2, at3, at4, at5, at6, at7, atm1, atm2, atm3, b_add, b_sub, b_mul, b_div, b_mod, b_pow, b_addT, b_addL, b_mulL, c_lt, c_le, c_gt, c_ge, c_eq, c_ne, c_eqs, c_nes, c_is, c_isnt, n_n, n_t, n_i, n_l, bl_b, int_i, f_len, f_lenT, f_min, f_max, f_abs, f_intB, f_int, f_tup, f_tupT, f_lst, f_lstT, f_sum, r_l0, r_l1, ints_map, c_neNil, c_ne00, sz0, pt0, pt1, pt2, if_true, if_false, ite_true, ite_false, if_false_right, if_false_left, decide_eq_true_eq, Bool.not_eq_true', Bool.not_true, Bool.not_false, decide_eq_false_iff_not, Bool.false_eq_true, reduceCtorEq, true_and, and_true, Int.reduceLT, Int.reduceLE, Int.reducePow, Int.reduceNeg, Int.reduceMul, Int.reduceAdd, Int.reduceSub, Int.reduceToNat, Int.reduceEq, na10, Nat.reducePow, Nat.reduceLT, Nat.reduceLeDiff, Nat.reduceAdd, Nat.reduceSub, true_or, or_true, and_self]
      exact ⟨sz, k6, ts ++ [.bring b1 b2 m f l], _, _, _, _, _, _, z.1, z.2.1, z.2.2.1, by rw [← z.2.2.2]; rfl⟩
    · have z := fin (.over b1 o f l) ⟨by simpa using hb1, ⟨o0, o1, f0, l0, by omega⟩⟩
      simp +decide only [Ok_cons, Ok_nil, SK_nx, SK_rt, FK_rt, FK_nx, evS, evE, evP, evEs, evQs, evPs, evO, evC, evI, Ok_bind, Ok_map, Ok_some, Ok_none, Ok_ite, getS, peekS, setS, wipeS, orc, permA, keyOf, List.map_cons, List.map_nil, List.cons_append, List.nil_append, List.append_nil, List.replicate, List.length_cons, List.length_nil, List.getElem?_cons_zero, List.getElem?_cons_succ, List.set_cons_zero, List.set_cons_succ, Option.map_some, Option.bind_some, asgT, asgTs, seqD, Ts.len, starD, List.take_succ_cons, List.take_zero, List.drop_succ_cons, List.drop_zero, List.take_nil, List.drop_nil, List.flatten_cons, List.flatten_nil, tp_n, tp_b, tp_i, tp_s, tp_t, tp_l, tp_d, tp_k, tp_c, tp_r0, tp_r1, ix_l, ix_t, ix_k, ix_d, ix_di, at0, at1, at2, at3, at4, at5, at6, at7, atm1, atm2, atm3, b_add, b_sub, b_mul, b_div, b_mod, b_pow, b_addT, b_addL, b_mulL, c_lt, c_le, c_gt, c_ge, c_eq, c_ne, c_eqs, c_nes, c_is, c_isnt, n_n, n_t, n_i, n_l, bl_b, int_i, f_len, f_lenT, f_min, f_max, f_abs, f_intB, f_int, f_tup, f_tupT, f_lst, f_lstT, f_sum, r_l0, r_l1, ints_map, c_neNil, c_ne00, sz0, pt0, pt1, pt2, if_true, if_false, ite_true, ite_false, if_false_right, if_false_left, decide_eq_true_eq, Bool.not_eq_true', Bool.not_true, Bool.not_false, decide_eq_false_iff_not, Bool.false_eq_true, reduceCtorEq, true_and, and_true, Int.reduceLT, Int.reduceLE, Int.reducePow, Int.reduceNeg, Int.reduceMul, Int.reduceAdd, Int.reduceSub, Int.reduceToNat, Int.reduceEq, na10, Nat.reducePow, Nat.reduceLT, Nat.reduceLeDiff, Nat.reduceAdd, Nat.reduceSub, true_or, or_true, and_self]
      exact ⟨sz, k6, ts ++ [.over b1 o f l], _, _, _, _, _, _, z.1, z.2.1, z.2.2.1, by rw [← z.2.2.2]; rfl⟩
  · rintro env S ⟨hS, ts, a, b, c, e, f, g, ht, hl, hr, rfl⟩
    simp +decide only [Ok_cons, Ok_nil, SK_nx, SK_rt, FK_rt, FK_nx, evS, evE, evP, evEs, evQs, evPs, evO, evC, evI, Ok_bind, Ok_map, Ok_some, Ok_none, Ok_ite, getS, peekS, setS, wipeS, orc, permA, keyOf, List.map_cons, List.map_nil, List.cons_append, List.nil_append, List.append_nil, List.replicate, List.length_cons, List.length_nil, List.getElem?_cons_zero, List.getElem?_cons_succ, List.set_cons_zero, List.set_cons_succ, Option.map_some, Option.bind_some, asgT, asgTs, seqD, Ts.len, starD, List.take_succ_cons, List.take_zero, List.drop_succ_cons, List.drop_zero, List.take_nil, List.drop_nil, List.flatten_cons, List.flatten_nil, tp_n, tp_b, tp_i, tp_s, tp_t, tp_l, tp_d, tp_k, tp_c, tp_r0, tp_r1, ix_l, ix_t, ix_k, ix_d, ix_di, at0, at1, at2, at3, at4, at5, at6, at7, atm1, atm2, atm3, b_add, b_sub, b_mul, b_div, b_mod, b_pow, b_addT, b_addL, b_mulL, c_lt, c_le, c_gt, c_ge, c_eq, c_ne, c_eqs, c_nes, c_is, c_isnt, n_n, n_t, n_i, n_l, bl_b, int_i, f_len, f_lenT, f_min, f_max, f_abs, f_intB, f_int, f_tup, f_tupT, f_lst, f_lstT, f_sum, r_l0, r_l1, ints_map, c_neNil, c_ne00, sz0, pt0, pt1, pt2, if_true, if_false, ite_true, ite_false, if_false_right, if_false_left, decide_eq_true_eq, Bool.not_eq_true', Bool.not_true, Bool.not_false, decide_eq_false_iff_not, Bool.false_eq_true, reduceCtorEq, true_and, and_true, Int.reduceLT, Int.reduceLE, Int.reducePow, Int.reduceNeg, Int.reduceMul, Int.reduceAdd, Int.reduceSub, Int.reduceToNat, Int.reduceEq, na10, Nat.reducePow, Nat.reduceLT, Nat.reduceLeDiff, Nat.reduceAdd, Nat.reduceSub, true_or, or_true, and_self]
    refine q ts S ht ?_ hS
    rcases ts with _ | ⟨t1, _ | ⟨t2, _ | ⟨t3, _ | ⟨t4, r⟩⟩⟩⟩ <;> simp at hr hl ⊢
/-- a square that the law looks at -/
theorem square_ok (hk : Dk R S) (w0 : 1 ≤ w) (w1 : w ≤ 12) (h0 : 1 ≤ h) (h1 : h ≤ 12) (ht : TOk w h t) (q : ∀ x y S', Dk R S' → Q (.tup [.int x, .int y], S')) : Ok (callN prg (n + 2) 15 [.ref 1, someD w h d p, t.t] S) Q := by
  refine Ok_call (f := ⟨3, 10, b15⟩) rfl rfl ?_
  unfold b15 someD
  cases t with
  | no =>
    unfold Tk.t
    simp only [Ok_cons]
    simp +decide only [Ok_nil, SK_rt, FK_rt, FK_nx, evS, evE, evP, evEs, evQs, evPs, evO, evC, evI, Ok_bind, Ok_map, Ok_some, Ok_none, Ok_ite, getS, peekS, setS, wipeS, orc, permA, keyOf, List.map_cons, List.map_nil, List.cons_append, List.nil_append, List.append_nil, List.replicate, List.length_cons, List.length_nil, List.getElem?_cons_zero, List.getElem?_cons_succ, List.set_cons_zero, List.set_cons_succ, Option.map_some, Option.bind_some, asgT, asgTs, seqD, Ts.len, starD, List.take_succ_cons, List.take_zero, List.drop_succ_cons, List.drop_zero, List.take_nil, List.drop_nil, List.flatten_cons, List.flatten_nil, tp_n, tp_b, tp_i, tp_s, tp_t, tp_l, tp_d, tp_k, tp_c, tp_r0, tp_r1, ix_l, ix_t, ix_k, ix_d, ix_di, at0, at1, at2, at3, at4, at5, at6, at7, atm1, atm2, atm3, b_add, b_sub, b_mul, b_div, b_mod, b_pow, b_addT, b_addL, b_mulL, c_lt, c_le, c_gt, c_ge, c_eq, c_ne, c_eqs, c_nes, c_is, c_isnt, n_n, n_t, n_i, n_l, bl_b, int_i, f_len, f_lenT, f_min, f_max, f_abs, f_intB, f_int, f_tup, f_tupT, f_lst, f_lstT, f_sum, r_l0, r_l1, ints_map, c_neNil, c_ne00, sz0, pt0, pt1, pt2, if_true, if_false, ite_true, ite_false, if_false_right, if_false_left, decide_eq_true_eq, Bool.not_eq_true', Bool.not_true, Bool.not_false, decide_eq_false_iff_not, Bool.false_eq_true, reduceCtorEq, true_and, and_true, Int.reduceLT, Int.reduceLE, Int.reducePow, Int.reduceNeg, Int.reduceMul, Int.reduceAdd, Int.reduceSub, Int.reduceToNat, Int.reduceEq, na10, Nat.reducePow, Nat.reduceLT, Nat.reduceLeDiff, Nat.reduceAdd, Nat.reduceSub, true_or, or_true, and_self, lkW, lkH, lkD]
    refine draw_ok dr hk (by omega) (by omega) fun v S1 v0 v1 k1 => ?_
    simp +decide only [Ok_nil, SK_rt, FK_rt, FK_nx, evS, evE, evP, evEs, evQs, evPs, evO, evC, evI, Ok_bind, Ok_map, Ok_some, Ok_none, Ok_ite, getS, peekS, setS, wipeS, orc, permA, keyOf, List.map_cons, List.map_nil, List.cons_append, List.nil_append, List.append_nil, List.replicate, List.length_cons, List.length_nil, List.getElem?_cons_zero, List.getElem?_cons_succ, List.set_cons_zero, List.set_cons_succ, Option.map_some, Option.bind_some, asgT, asgTs, seqD, Ts.len, starD, List.take_succ_cons, List.take_zero, List.drop_succ_cons, List.drop_zero, List.take_nil, List.drop_nil, List.flatten_cons, List.flatten_nil, tp_n, tp_b, tp_i, tp_s, tp_t, tp_l, tp_d, tp_k, tp_c, tp_r0, tp_r1, ix_l, ix_t, ix_k, ix_d, ix_di, at0, at1, at2, at3, at4, at5, at6, at7, atm1, atm2, atm3, b_add, b_sub, b_mul, b_div, b_mod, b_pow, b_addT, b_addL, b_mulL, c_lt, c_le, c_gt, c_ge, c_eq, c_ne, c_eqs, c_nes, c_is, c_isnt, n_n, n_t, n_i, n_l, bl_b, int_i, f_len, f_lenT, f_min, f_max, f_abs, f_intB, f_int, f_tup, f_tupT, f_lst, f_lstT, f_sum, r_l0, r_l1, ints_map, c_neNil, c_ne00, sz0, pt0, pt1, pt2, if_true, if_false, ite_true, ite_false, if_false_right, if_false_left, decide_eq_true_eq, Bool.not_eq_true', Bool.not_true, Bool.not_false, decide_eq_false_iff_not, Bool.false_eq_true, reduceCtorEq, true_and, and_true, Int.reduceLT, Int.reduceLE, Int.reducePow, Int.reduceNeg, Int.reduceMul, Int.reduceAdd, Int.reduceSub, Int.reduceToNat, Int.reduceEq, na10, Nat.reducePow, Nat.reduceLT, Nat.reduceLeDiff, Nat.reduceAdd, Nat.reduceSub, true_or, or_true, and_self, lkW, lkH, lkD]
    simp only [SK_nx, Ok_cons]
    simp +decide only [Ok_nil, SK_rt, FK_rt, FK_nx, evS, evE, evP, evEs, evQs, evPs, evO, evC, evI, Ok_bind, Ok_map, Ok_some, Ok_none, Ok_ite, getS, peekS, setS, wipeS, orc, permA, keyOf, List.map_cons, List.map_nil, List.cons_append, List.nil_append, List.append_nil, List.replicate, List.length_cons, List.length_nil, List.getElem?_cons_zero, List.getElem?_cons_succ, List.set_cons_zero, List.set_cons_succ, Option.map_some, Option.bind_some, asgT, asgTs, seqD, Ts.len, starD, List.take_succ_cons, List.take_zero, List.drop_succ_cons, List.drop_zero, List.take_nil, List.drop_nil, List.flatten_cons, List.flatten_nil, tp_n, tp_b, tp_i, tp_s, tp_t, tp_l, tp_d, tp_k, tp_c, tp_r0, tp_r1, ix_l, ix_t, ix_k, ix_d, ix_di, at0, at1, at2, at3, at4, at5, at6, at7, atm1, atm2, atm3, b_add, b_sub, b_mul, b_div, b_mod, b_pow, b_addT, b_addL, b_mulL, c_lt, c_le, c_gt, c_ge, c_eq, c_ne, c_eqs, c_nes, c_is, c_isnt, n_n, n_t, n_i, n_l, bl_b, int_i, f_len, f_lenT, f_min, f_max, f_abs, f_intB, f_int, f_tup, f_tupT, f_lst, f_lstT, f_sum, r_l0, r_l1, ints_map, c_neNil, c_ne00, sz0, pt0, pt1, pt2, if_true, if_false, ite_true, ite_false, if_false_right, if_false_left, decide_eq_true_eq, Bool.not_eq_true', Bool.not_true, Bool.not_false, decide_eq_false_iff_not, Bool.false_eq_true, reduceCtorEq, true_and, and_true, Int.reduceLT, Int.reduceLE, Int.reducePow, Int.reduceNeg, Int.reduceMul, Int.reduceAdd, Int.reduceSub, Int.reduceToNat, Int.reduceEq, na10, Nat.reducePow, Nat.reduceLT, Nat.reduceLeDiff, Nat.reduceAdd, Nat.reduceSub, true_or, or_true, and_self, lkW, lkH, lkD]
    simp only [SK_nx, Ok_cons]
    simp +decide only [Ok_nil, SK_rt, FK_rt, FK_nx, evS, evE, evP, evEs, evQs, evPs, evO, evC, evI, Ok_bind, Ok_map, Ok_some, Ok_none, Ok_ite, getS, peekS, setS, wipeS, orc, permA, keyOf, List.map_cons, List.map_nil, List.cons_append, List.nil_append, List.append_nil, List.replicate, List.length_cons, List.length_nil, List.getElem?_cons_zero, List.getElem?_cons_succ, List.set_cons_zero, List.set_cons_succ, Option.map_some, Option.bind_some, asgT, asgTs, seqD, Ts.len, starD, List.take_succ_cons, List.take_zero, List.drop_succ_cons, List.drop_zero, List.take_nil, List.drop_nil, List.flatten_cons, List.flatten_nil, tp_n, tp_b, tp_i, tp_s, tp_t, tp_l, tp_d, tp_k, tp_c, tp_r0, tp_r1, ix_l, ix_t, ix_k, ix_d, ix_di, at0, at1, at2, at3, at4, at5, at6, at7, atm1, atm2, atm3, b_add, b_sub, b_mul, b_div, b_mod, b_pow, b_addT, b_addL, b_mulL, c_lt, c_le, c_gt, c_ge, c_eq, c_ne, c_eqs, c_nes, c_is, c_isnt, n_n, n_t, n_i, n_l, bl_b, int_i, f_len, f_lenT, f_min, f_max, f_abs, f_intB, f_int, f_tup, f_tupT, f_lst, f_lstT, f_sum, r_l0, r_l1, ints_map, c_neNil, c_ne00, sz0, pt0, pt1, pt2, if_true, if_false, ite_true, ite_false, if_false_right, if_false_left, decide_eq_true_eq, Bool.not_eq_true', Bool.not_true, Bool.not_false, decide_eq_false_iff_not, Bool.false_eq_true, reduceCtorEq, true_and, and_true, Int.reduceLT, Int.reduceLE, Int.reducePow, Int.reduceNeg, Int.reduceMul, Int.reduceAdd, Int.reduceSub, Int.reduceToNat, Int.reduceEq, na10, Nat.reducePow, Nat.reduceLT, Nat.reduceLeDiff, Nat.reduceAdd, Nat.reduceSub, true_or, or_true, and_self, lkW, lkH, lkD]
    refine draw_ok dr k1 (by omega) (by omega) fun x S2 x0 x1 k2 => ?_
    simp +decide only [Ok_nil, SK_rt, FK_rt, FK_nx, evS, evE, evP, evEs, evQs, evPs, evO, evC, evI, Ok_bind, Ok_map, Ok_some, Ok_none, Ok_ite, getS, peekS, setS, wipeS, orc, permA, keyOf, List.map_cons, List.map_nil, List.cons_append, List.nil_append, List.append_nil, List.replicate, List.length_cons, List.length_nil, List.getElem?_cons_zero, List.getElem?_cons_succ, List.set_cons_zero, List.set_cons_succ, Option.map_some, Option.bind_some, asgT, asgTs, seqD, Ts.len, starD, List.take_succ_cons, List.take_zero, List.drop_succ_cons, List.drop_zero, List.take_nil, List.drop_nil, List.flatten_cons, List.flatten_nil, tp_n, tp_b, tp_i, tp_s, tp_t, tp_l, tp_d, tp_k, tp_c, tp_r0, tp_r1, ix_l, ix_t, ix_k, ix_d, ix_di, at0, at1, at2, at3, at4, at5, at6, at7, atm1, atm2, atm3, b_add, b_sub, b_mul, b_div, b_mod, b_pow, b_addT, b_addL, b_mulL, c_lt, c_le, c_gt, c_ge, c_eq, c_ne, c_eqs, c_nes, c_is, c_isnt, n_n, n_t, n_i, n_l, bl_b, int_i, f_len, f_lenT, f_min, f_max, f_abs, f_intB, f_int, f_tup, f_tupT, f_lst, f_lstT, f_sum, r_l0, r_l1, ints_map, c_neNil, c_ne00, sz0, pt0, pt1, pt2, if_true, if_false, ite_true, ite_false, if_false_right, if_false_left, decide_eq_true_eq, Bool.not_eq_true', Bool.not_true, Bool.not_false, decide_eq_false_iff_not, Bool.false_eq_true, reduceCtorEq, true_and, and_true, Int.reduceLT, Int.reduceLE, Int.reducePow, Int.reduceNeg, Int.reduceMul, Int.reduceAdd, Int.reduceSub, Int.reduceToNat, Int.reduceEq, na10, Nat.reducePow, Nat.reduceLT, Nat.reduceLeDiff, Nat.reduceAdd, Nat.reduceSub, true_or, or_true, and_self, lkW, lkH, lkD]
    refine draw_ok dr k2 (by omega) (by omega) fun y S3 y0 y1 k3 => ?_
    simp +decide only [Ok_nil, SK_rt, FK_rt, FK_nx, evS, evE, evP, evEs, evQs, evPs, evO, evC, evI, Ok_bind, Ok_map, Ok_some, Ok_none, Ok_ite, getS, peekS, setS, wipeS, orc, permA, keyOf, List.map_cons, List.map_nil, List.cons_append, List.nil_append, List.append_nil, List.replicate, List.length_cons, List.length_nil, List.getElem?_cons_zero, List.getElem?_cons_succ, List.set_cons_zero, List.set_cons_succ, Option.map_some, Option.bind_some, asgT, asgTs, seqD, Ts.len, starD, List.take_succ_cons, List.take_zero, List.drop_succ_cons, List.drop_zero, List.take_nil, List.drop_nil, List.flatten_cons, List.flatten_nil, tp_n, tp_b, tp_i, tp_s, tp_t, tp_l, tp_d, tp_k, tp_c, tp_r0, tp_r1, ix_l, ix_t, ix_k, ix_d, ix_di, at0, at1, at2, at3, at4, at5, at6, at7, atm1, atm2, atm3, b_add, b_sub, b_mul, b_div, b_mod, b_pow, b_addT, b_addL, b_mulL, c_lt, c_le, c_gt, c_ge, c_eq, c_ne, c_eqs, c_nes, c_is, c_isnt, n_n, n_t, n_i, n_l, bl_b, int_i, f_len, f_lenT, f_min, f_max, f_abs, f_intB, f_int, f_tup, f_tupT, f_lst, f_lstT, f_sum, r_l0, r_l1, ints_map, c_neNil, c_ne00, sz0, pt0, pt1, pt2, if_true, if_false, ite_true, ite_false, if_false_right, if_false_left, decide_eq_true_eq, Bool.not_eq_true', Bool.not_true, Bool.not_false, decide_eq_false_iff_not, Bool.false_eq_true, reduceCtorEq, true_and, and_true, Int.reduceLT, Int.reduceLE, Int.reducePow, Int.reduceNeg, Int.reduceMul, Int.reduceAdd, Int.reduceSub, Int.reduceToNat, Int.reduceEq, na10, Nat.reducePow, Nat.reduceLT, Nat.reduceLeDiff, Nat.reduceAdd, Nat.reduceSub, true_or, or_true, and_self, lkW, lkH, lkD]
    simp only [SK_nx, Ok_cons]
    simp +decide only [Ok_nil, SK_rt, FK_rt, FK_nx, evS, evE, evP, evEs, evQs, evPs, evO, evC, evI, Ok_bind, Ok_map, Ok_some, Ok_none, Ok_ite, getS, peekS, setS, wipeS, orc, permA, keyOf, List.map_cons, List.map_nil, List.cons_append, List.nil_append, List.append_nil, List.replicate, List.length_cons, List.length_nil, List.getElem?_cons_zero, List.getElem?_cons_succ, List.set_cons_zero, List.set_cons_succ, Option.map_some, Option.bind_some, asgT, asgTs, seqD, Ts.len, starD, List.take_succ_cons, List.take_zero, List.drop_succ_cons, List.drop_zero, List.take_nil, List.drop_nil, List.flatten_cons, List.flatten_nil, tp_n, tp_b, tp_i, tp_s, tp_t, tp_l, tp_d, tp_k, tp_c, tp_r0, tp_r1, ix_l, ix_t, ix_k, ix_d, ix_di, at0, at1, at2, at3, at4, at5, at6, at7, atm1, atm2, atm3, b_add, b_sub, b_mul, b_div, b_mod, b_pow, b_addT, b_addL, b_mulL, c_lt, c_le, c_gt, c_ge, c_eq, c_ne, c_eqs, c_nes, c_is, c_isnt, n_n, n_t, n_i, n_l, bl_b, int_i, f_len, f_lenT, f_min, f_max, f_abs, f_intB, f_int, f_tup, f_tupT, f_lst, f_lstT, f_sum, r_l0, r_l1, ints_map, c_neNil, c_ne00, sz0, pt0, pt1, pt2, if_true, if_false, ite_true, ite_false, if_false_right, if_false_left, decide_eq_true_eq, Bool.not_eq_true', Bool.not_true, Bool.not_false, decide_eq_false_iff_not, Bool.false_eq_true, reduceCtorEq, true_and, and_true, Int.reduceLT, Int.reduceLE, Int.reducePow, Int.reduceNeg, Int.reduceMul, Int.reduceAdd, Int.reduceSub, Int.reduceToNat, Int.reduceEq, na10, Nat.reducePow, Nat.reduceLT, Nat.reduceLeDiff, Nat.reduceAdd, Nat.reduceSub, true_or, or_true, and_self, lkW, lkH, lkD]
    simp only [SK_nx, Ok_cons]
    simp +decide only [Ok_nil, SK_rt, FK_rt, FK_nx, evS, evE, evP, evEs, evQs, evPs, evO, evC, evI, Ok_bind, Ok_map, Ok_some, Ok_none, Ok_ite, getS, peekS, setS, wipeS, orc, permA, keyOf, List.map_cons, List.map_nil, List.cons_append, List.nil_append, List.append_nil, List.replicate, List.length_cons, List.length_nil, List.getElem?_cons_zero, List.getElem?_cons_succ, List.set_cons_zero, List.set_cons_succ, Option.map_some, Option.bind_some, asgT, asgTs, seqD, Ts.len, starD, List.take_succ_cons, List.take_zero, List.drop_succ_cons, List.drop_zero, List.take_nil, List.drop_nil, List.flatten_cons, List.flatten_nil, tp_n, tp_b, tp_i, tp_s, tp_t, tp_l, tp_d, tp_k, tp_c, tp_r0, tp_r1, ix_l, ix_t, ix_k, ix_d, ix_di, at0, at1, at2, at3, at4, at5, at6, at7, atm1, atm2, atm3, b_add, b_sub, b_mul, b_div, b_mod, b_pow, b_addT, b_addL, b_mulL, c_lt, c_le, c_gt, c_ge, c_eq, c_ne, c_eqs, c_nes, c_is, c_isnt, n_n, n_t, n_i, n_l, bl_b, int_i, f_len, f_lenT, f_min, f_max, f_abs, f_intB, f_int, f_tup, f_tupT, f_lst, f_lstT, f_sum, r_l0, r_l1, ints_map, c_neNil, c_ne00, sz0, pt0, pt1, pt2, if_true, if_false, ite_true, ite_false, if_false_right, if_false_left, decide_eq_true_eq, Bool.not_eq_true', Bool.not_true, Bool.not_false, decide_eq_false_iff_not, Bool.false_eq_true, reduceCtorEq, true_and, and_true, Int.reduceLT, Int.reduceLE, Int.reducePow, Int.reduceNeg, Int.reduceMul, Int.reduceAdd, Int.reduceSub, Int.reduceToNat, Int.reduceEq, na10, Nat.reducePow, Nat.reduceLT, Nat.reduceLeDiff, Nat.reduceAdd, Nat.reduceSub, true_or, or_true, and_self, lkW, lkH, lkD]
    refine Ok_at v0 (by simp only [List.length_cons, List.length_nil]; omega) fun r _ mr => ?_
    simp only [List.mem_cons, List.not_mem_nil, or_false] at mr
    rcases mr with rfl | rfl | rfl | rfl | rfl | rfl | rfl <;> exact q _ _ _ k3
  | look b f l =>
    unfold Tk.t Bx.t
    simp only [Ok_cons]
    simp +decide only [Ok_nil, SK_rt, FK_rt, FK_nx, evS, evE, evP, evEs, evQs, evPs, evO, evC, evI, Ok_bind, Ok_map, Ok_some, Ok_none, Ok_ite, getS, peekS, setS, wipeS, orc, permA, keyOf, List.map_cons, List.map_nil, List.cons_append, List.nil_append, List.append_nil, List.replicate, List.length_cons, List.length_nil, List.getElem?_cons_zero, List.getElem?_cons_succ, List.set_cons_zero, List.set_cons_succ, Option.map_some, Option.bind_some, asgT, asgTs, seqD, Ts.len, starD, List.take_succ_cons, List.take_zero, List.drop_succ_cons, List.drop_zero, List.take_nil, List.drop_nil, List.flatten_cons, List.flatten_nil, tp_n, tp_b, tp_i, tp_s, tp_t, tp_l, tp_d, tp_k, tp_c, tp_r0, tp_r1, ix_l, ix_t, ix_k, ix_d, ix_di, at0, at1, at2, at3, at4, at5, at6, at7, atm1, atm2, atm3, b_add, b_sub, b_mul, b_div, b_mod, b_pow, b_addT, b_addL, b_mulL, c_lt, c_le, c_gt, c_ge, c_eq, c_ne, c_eqs, c_nes, c_is, c_isnt, n_n, n_t, n_i, n_l, bl_b, int_i, f_len, f_lenT, f_min, f_max, f_abs, f_intB, f_int, f_tup, f_tupT, f_lst, f_lstT, f_sum, r_l0, r_l1, ints_map, c_neNil, c_ne00, sz0, pt0, pt1, pt2, if_true, if_false, ite_true, ite_false, if_false_right, if_false_left, decide_eq_true_eq, Bool.not_eq_true', Bool.not_true, Bool.not_false, decide_eq_false_iff_not, Bool.false_eq_true, reduceCtorEq, true_and, and_true, Int.reduceLT, Int.reduceLE, Int.reducePow, Int.reduceNeg, Int.reduceMul, Int.reduceAdd, Int.reduceSub, Int.reduceToNat, Int.reduceEq, na10, Nat.reducePow, Nat.reduceLT, Nat.reduceLeDiff, Nat.reduceAdd, Nat.reduceSub, true_or, or_true, and_self, lkW, lkH, lkD]
    refine draw_ok dr hk (by omega) (by omega) fun v S1 v0 v1 k1 => ?_
    simp +decide only [Ok_nil, SK_rt, FK_rt, FK_nx, evS, evE, evP, evEs, evQs, evPs, evO, evC, evI, Ok_bind, Ok_map, Ok_some, Ok_none, Ok_ite, getS, peekS, setS, wipeS, orc, permA, keyOf, List.map_cons, List.map_nil, List.cons_append, List.nil_append, List.append_nil, List.replicate, List.length_cons, List.length_nil, List.getElem?_cons_zero, List.getElem?_cons_succ, List.set_cons_zero, List.set_cons_succ, Option.map_some, Option.bind_some, asgT, asgTs, seqD, Ts.len, starD, List.take_succ_cons, List.take_zero, List.drop_succ_cons, List.drop_zero, List.take_nil, List.drop_nil, List.flatten_cons, List.flatten_nil, tp_n, tp_b, tp_i, tp_s, tp_t, tp_l, tp_d, tp_k, tp_c, tp_r0, tp_r1, ix_l, ix_t, ix_k, ix_d, ix_di, at0, at1, at2, at3, at4, at5, at6, at7, atm1, atm2, atm3, b_add, b_sub, b_mul, b_div, b_mod, b_pow, b_addT, b_addL, b_mulL, c_lt, c_le, c_gt, c_ge, c_eq, c_ne, c_eqs, c_nes, c_is, c_isnt, n_n, n_t, n_i, n_l, bl_b, int_i, f_len, f_lenT, f_min, f_max, f_abs, f_intB, f_int, f_tup, f_tupT, f_lst, f_lstT, f_sum, r_l0, r_l1, ints_map, c_neNil, c_ne00, sz0, pt0, pt1, pt2, if_true, if_false, ite_true, ite_false, if_false_right, if_false_left, decide_eq_true_eq, Bool.not_eq_true', Bool.not_true, Bool.not_false, decide_eq_false_iff_not, Bool.false_eq_true, reduceCtorEq, true_and, and_true, Int.reduceLT, Int.reduceLE, Int.reducePow, Int.reduceNeg, Int.reduceMul, Int.reduceAdd, Int.reduceSub, Int.reduceToNat, Int.reduceEq, na10, Nat.reducePow, Nat.reduceLT, Nat.reduceLeDiff, Nat.reduceAdd, Nat.reduceSub, true_or, or_true, and_self, lkW, lkH, lkD]
    simp only [SK_nx, Ok_cons]
    simp +decide only [Ok_nil, SK_rt, FK_rt, FK_nx, evS, evE, evP, evEs, evQs, evPs, evO, evC, evI, Ok_bind, Ok_map, Ok_some, Ok_none, Ok_ite, getS, peekS, setS, wipeS, orc, permA, keyOf, List.map_cons, List.map_nil, List.cons_append, List.nil_append, List.append_nil, List.replicate, List.length_cons, List.length_nil, List.getElem?_cons_zero, List.getElem?_cons_succ, List.set_cons_zero, List.set_cons_succ, Option.map_some, Option.bind_some, asgT, asgTs, seqD, Ts.len, starD, List.take_succ_cons, List.take_zero, List.drop_succ_cons, List.drop_zero, List.take_nil, List.drop_nil, List.flatten_cons, List.flatten_nil, tp_n, tp_b, tp_i, tp_s, tp_t, tp_l, tp_d, tp_k, tp_c, tp_r0, tp_r1, ix_l, ix_t, ix_k, ix_d, ix_di, at0, at1, at2, at3, at4, at5, at6, at7, atm1, atm2, atm3, b_add, b_sub, b_mul, b_div, b_mod, b_pow, b_addT, b_addL, b_mulL, c_lt, c_le, c_gt, c_ge, c_eq, c_ne, c_eqs, c_nes, c_is, c_isnt, n_n, n_t, n_i, n_l, bl_b, int_i, f_len, f_lenT, f_min, f_max, f_abs, f_intB, f_int, f_tup, f_tupT, f_lst, f_lstT, f_sum, r_l0, r_l1, ints_map, c_neNil, c_ne00, sz0, pt0, pt1, pt2, if_true, if_false, ite_true, ite_false, if_false_right, if_false_left, decide_eq_true_eq, Bool.not_eq_true', Bool.not_true, Bool.not_false, decide_eq_false_iff_not, Bool.false_eq_true, reduceCtorEq, true_and, and_true, Int.reduceLT, Int.reduceLE, Int.reducePow, Int.reduceNeg, Int.reduceMul, Int.reduceAdd, Int.reduceSub, Int.reduceToNat, Int.reduceEq, na10, Nat.reducePow, Nat.reduceLT, Nat.reduceLeDiff, Nat.reduceAdd, Nat.reduceSub, true_or, or_true, and_self, lkW, lkH, lkD]
    simp only [SK_nx, Ok_cons]
    simp +decide only [Ok_nil, SK_rt, FK_rt, FK_nx, evS, evE, evP, evEs, evQs, evPs, evO, evC, evI, Ok_bind, Ok_map, Ok_some, Ok_none, Ok_ite, getS, peekS, setS, wipeS, orc, permA, keyOf, List.map_cons, List.map_nil, List.cons_append, List.nil_append, List.append_nil, List.replicate, List.length_cons, List.length_nil, List.getElem?_cons_zero, List.getElem?_cons_succ, List.set_cons_zero, List.set_cons_succ, Option.map_some, Option.bind_some, asgT, asgTs, seqD, Ts.len, starD, List.take_succ_cons, List.take_zero, List.drop_succ_cons, List.drop_zero, List.take_nil, List.drop_nil, List.flatten_cons, List.flatten_nil, tp_n, tp_b, tp_i, tp_s, tp_t, tp_l, tp_d, tp_k, tp_c, tp_r0, tp_r1, ix_l, ix_t, ix_k, ix_d, ix_di, at0, at1, at2, at3, at4, at5, at6, at7, atm1, atm2, atm3, b_add, b_sub, b_mul, b_div, b_mod, b_pow, b_addT, b_addL, b_mulL, c_lt, c_le, c_gt, c_ge, c_eq, c_ne, c_eqs, c_nes, c_is, c_isnt, n_n, n_t, n_i, n_l, bl_b, int_i, f_len, f_lenT, f_min, f_max, f_abs, f_intB, f_int, f_tup, f_tupT, f_lst, f_lstT, f_sum, r_l0, r_l1, ints_map, c_neNil, c_ne00, sz0, pt0, pt1, pt2, if_true, if_false, ite_true, ite_false, if_false_right, if_false_left, decide_eq_true_eq, Bool.not_eq_true', Bool.not_true, Bool.not_false, decide_eq_false_iff_not, Bool.false_eq_true, reduceCtorEq, true_and, and_true, Int.reduceLT, Int.reduceLE, Int.reducePow, Int.reduceNeg, Int.reduceMul, Int.reduceAdd, Int.reduceSub, Int.reduceToNat, Int.reduceEq, na10, Nat.reducePow, Nat.reduceLT, Nat.reduceLeDiff, Nat.reduceAdd, Nat.reduceSub, true_or, or_true, and_self, lkW, lkH, lkD]
    simp only [SK_nx, Ok_cons]
    simp +decide only [Ok_nil, SK_rt, FK_rt, FK_nx, evS, evE, evP, evEs, evQs, evPs, evO, evC, evI, Ok_bind, Ok_map, Ok_some, Ok_none, Ok_ite, getS, peekS, setS, wipeS, orc, permA, keyOf, List.map_cons, List.map_nil, List.cons_append, List.nil_append, List.append_nil, List.replicate, List.length_cons, List.length_nil, List.getElem?_cons_zero, List.getElem?_cons_succ, List.set_cons_zero, List.set_cons_succ, Option.map_some, Option.bind_some, asgT, asgTs, seqD, Ts.len, starD, List.take_succ_cons, List.take_zero, List.drop_succ_cons, List.drop_zero, List.take_nil, List.drop_nil, List.flatten_cons, List.flatten_nil, tp_n, tp_b, tp_i, tp_s, tp_t, tp_l, tp_d, tp_k, tp_c, tp_r0, tp_r1, ix_l, ix_t, ix_k, ix_d, ix_di, at0, at1, at2, at3, at4, at5, at6, at7, atm1, atm2, atm3, b_add, b_sub, b_mul, b_div, b_mod, b_pow, b_addT, b_addL, b_mulL, c_lt, c_le, c_gt, c_ge, c_eq, c_ne, c_eqs, c_nes, c_is, c_isnt, n_n, n_t, n_i, n_l, bl_b, int_i, f_len, f_lenT, f_min, f_max, f_abs, f_intB, f_int, f_tup, f_tupT, f_lst, f_lstT, f_sum, r_l0, r_l1, ints_map, c_neNil, c_ne00, sz0, pt0, pt1, pt2, if_true, if_false, ite_true, ite_false, if_false_right, if_false_left, decide_eq_true_eq, Bool.not_eq_true', Bool.not_true, Bool.not_false, decide_eq_false_iff_not, Bool.false_eq_true, reduceCtorEq, true_and, and_true, Int.reduceLT, Int.reduceLE, Int.reducePow, Int.reduceNeg, Int.reduceMul, Int.reduceAdd, Int.reduceSub, Int.reduceToNat, Int.reduceEq, na10, Nat.reducePow, Nat.reduceLT, Nat.reduceLeDiff, Nat.reduceAdd, Nat.reduceSub, true_or, or_true, and_self, lkW, lkH, lkD]
    simp only [SK_nx, Ok_cons]
    simp +decide only [Ok_nil, SK_rt, FK_rt, FK_nx, evS, evE, evP, evEs, evQs, evPs, evO, evC, evI, Ok_bind, Ok_map, Ok_some, Ok_none, Ok_ite, getS, peekS, setS, wipeS, orc, permA, keyOf, List.map_cons, List.map_nil, List.cons_append, List.nil_append, List.append_nil, List.replicate, List.length_cons, List.length_nil, List.getElem?_cons_zero, List.getElem?_cons_succ, List.set_cons_zero, List.set_cons_succ, Option.map_some, Option.bind_some, asgT, asgTs, seqD, Ts.len, starD, List.take_succ_cons, List.take_zero, List.drop_succ_cons, List.drop_zero, List.take_nil, List.drop_nil, List.flatten_cons, List.flatten_nil, tp_n, tp_b, tp_i, tp_s, tp_t, tp_l, tp_d, tp_k, tp_c, tp_r0, tp_r1, ix_l, ix_t, ix_k, ix_d, ix_di, at0, at1, at2, at3, at4, at5, at6, at7, atm1, atm2, atm3, b_add, b_sub, b_mul, b_div, b_mod, b_pow, b_addT, b_addL, b_mulL, c_lt, c_le, c_gt, c_ge, c_eq, c_ne, c_eqs, c_nes, c_is, c_isnt, n_n, n_t, n_i, n_l, bl_b, int_i, f_len, f_lenT, f_min, f_max, f_abs, f_intB, f_int, f_tup, f_tupT, f_lst, f_lstT, f_sum, r_l0, r_l1, ints_map, c_neNil, c_ne00, sz0, pt0, pt1, pt2, if_true, if_false, ite_true, ite_false, if_false_right, if_false_left, decide_eq_true_eq, Bool.not_eq_true', Bool.not_true, Bool.not_false, decide_eq_false_iff_not, Bool.false_eq_true, reduceCtorEq, true_and, and_true, Int.reduceLT, Int.reduceLE, Int.reducePow, Int.reduceNeg, Int.reduceMul, Int.reduceAdd, Int.reduceSub, Int.reduceToNat, Int.reduceEq, na10, Nat.reducePow, Nat.reduceLT, Nat.reduceLeDiff, Nat.reduceAdd, Nat.reduceSub, true_or, or_true, and_self, lkW, lkH, lkD]
    refine draw_ok dr k1 (by omega) (by omega) fun x S2 x0 x1 k2 => ?_
    simp +decide only [Ok_nil, SK_rt, FK_rt, FK_nx, evS, evE, evP, evEs, evQs, evPs, evO, evC, evI, Ok_bind, Ok_map, Ok_some, Ok_none, Ok_ite, getS, peekS, setS, wipeS, orc, permA, keyOf, List.map_cons, List.map_nil, List.cons_append, List.nil_append, List.append_nil, List.replicate, List.length_cons, List.length_nil, List.getElem?_cons_zero, List.getElem?_cons_succ, List.set_cons_zero, List.set_cons_succ, Option.map_some, Option.bind_some, asgT, asgTs, seqD, Ts.len, starD, List.take_succ_cons, List.take_zero, List.drop_succ_cons, List.drop_zero, List.take_nil, List.drop_nil, List.flatten_cons, List.flatten_nil, tp_n, tp_b, tp_i, tp_s, tp_t, tp_l, tp_d, tp_k, tp_c, tp_r0, tp_r1, ix_l, ix_t, ix_k, ix_d, ix_di, at0, at1, at2, at3, at4, at5, at6, at7, atm1, atm2, atm3, b_add, b_sub, b_mul, b_div, b_mod, b_pow, b_addT, b_addL, b_mulL, c_lt, c_le, c_gt, c_ge, c_eq, c_ne, c_eqs, c_nes, c_is, c_isnt, n_n, n_t, n_i, n_l, bl_b, int_i, f_len, f_lenT, f_min, f_max, f_abs, f_intB, f_int, f_tup, f_tupT, f_lst, f_lstT, f_sum, r_l0, r_l1, ints_map, c_neNil, c_ne00, sz0, pt0, pt1, pt2, if_true, if_false, ite_true, ite_false, if_false_right, if_false_left, decide_eq_true_eq, Bool.not_eq_true', Bool.not_true, Bool.not_false, decide_eq_false_iff_not, Bool.false_eq_true, reduceCtorEq, true_and, and_true, Int.reduceLT, Int.reduceLE, Int.reducePow, Int.reduceNeg, Int.reduceMul, Int.reduceAdd, Int.reduceSub, Int.reduceToNat, Int.reduceEq, na10, Nat.reducePow, Nat.reduceLT, Nat.reduceLeDiff, Nat.reduceAdd, Nat.reduceSub, true_or, or_true, and_self, lkW, lkH, lkD]
    refine draw_ok dr k2 (by omega) (by omega) fun y S3 y0 y1 k3 => ?_
    simp +decide only [Ok_nil, SK_rt, FK_rt, FK_nx, evS, evE, evP, evEs, evQs, evPs, evO, evC, evI, Ok_bind, Ok_map, Ok_some, Ok_none, Ok_ite, getS, peekS, setS, wipeS, orc, permA, keyOf, List.map_cons, List.map_nil, List.cons_append, List.nil_append, List.append_nil, List.replicate, List.length_cons, List.length_nil, List.getElem?_cons_zero, List.getElem?_cons_succ, List.set_cons_zero, List.set_cons_succ, Option.map_some, Option.bind_some, asgT, asgTs, seqD, Ts.len, starD, List.take_succ_cons, List.take_zero, List.drop_succ_cons, List.drop_zero, List.take_nil, List.drop_nil, List.flatten_cons, List.flatten_nil, tp_n, tp_b, tp_i, tp_s, tp_t, tp_l, tp_d, tp_k, tp_c, tp_r0, tp_r1, ix_l, ix_t, ix_k, ix_d, ix_di, at0, at1, at2, at3, at4, at5, at6, at7, atm1, atm2, atm3, b_add, b_sub, b_mul, b_div, b_mod, b_pow, b_addT, b_addL, b_mulL, c_lt, c_le, c_gt, c_ge, c_eq, c_ne, c_eqs, c_nes, c_is, c_isnt, n_n, n_t, n_i, n_l, bl_b, int_i, f_len, f_lenT, f_min, f_max, f_abs, f_intB, f_int, f_tup, f_tupT, f_lst, f_lstT, f_sum, r_l0, r_l1, ints_map, c_neNil, c_ne00, sz0, pt0, pt1, pt2, if_true, if_false, ite_true, ite_false, if_false_right, if_false_left, decide_eq_true_eq, Bool.not_eq_true', Bool.not_true, Bool.not_false, decide_eq_false_iff_not, Bool.false_eq_true, reduceCtorEq, true_and, and_true, Int.reduceLT, Int.reduceLE, Int.reducePow, Int.reduceNeg, Int.reduceMul, Int.reduceAdd, Int.reduceSub, Int.reduceToNat, Int.reduceEq, na10, Nat.reducePow, Nat.reduceLT, Nat.reduceLeDiff, Nat.reduceAdd, Nat.reduceSub, true_or, or_true, and_self, lkW, lkH, lkD]
    simp only [SK_nx, Ok_cons]
    simp +decide only [Ok_nil, SK_rt, FK_rt, FK_nx, evS, evE, evP, evEs, evQs, evPs, evO, evC, evI, Ok_bind, Ok_map, Ok_some, Ok_none, Ok_ite, getS, peekS, setS, wipeS, orc, permA, keyOf, List.map_cons, List.map_nil, List.cons_append, List.nil_append, List.append_nil, List.replicate, List.length_cons, List.length_nil, List.getElem?_cons_zero, List.getElem?_cons_succ, List.set_cons_zero, List.set_cons_succ, Option.map_some, Option.bind_some, asgT, asgTs, seqD, Ts.len, starD, List.take_succ_cons, List.take_zero, List.drop_succ_cons, List.drop_zero, List.take_nil, List.drop_nil, List.flatten_cons, List.flatten_nil, tp_n, tp_b, tp_i, tp_s, tp_t, tp_l, tp_d, tp_k, tp_c, tp_r0, tp_r1, ix_l, ix_t, ix_k, ix_d, ix_di, at0, at1, at2, at3, at4, at5, at6, at7, atm1, atm2, atm3, b_add, b_sub, b_mul, b_div, b_mod, b_pow, b_addT, b_addL, b_mulL, c_lt, c_le, c_gt, c_ge, c_eq, c_ne, c_eqs, c_nes, c_is, c_isnt, n_n, n_t, n_i, n_l, bl_b, int_i, f_len, f_lenT, f_min, f_max, f_abs, f_intB, f_int, f_tup, f_tupT, f_lst, f_lstT, f_sum, r_l0, r_l1, ints_map, c_neNil, c_ne00, sz0, pt0, pt1, pt2, if_true, if_false, ite_true, ite_false, if_false_right, if_false_left, decide_eq_true_eq, Bool.not_eq_true', Bool.not_true, Bool.not_false, decide_eq_false_iff_not, Bool.false_eq_true, reduceCtorEq, true_and, and_true, Int.reduceLT, Int.reduceLE, Int.reducePow, Int.reduceNeg, Int.reduceMul, Int.reduceAdd, Int.reduceSub, Int.reduceToNat, Int.reduceEq, na10, Nat.reducePow, Nat.reduceLT, Nat.reduceLeDiff, Nat.reduceAdd, Nat.reduceSub, true_or, or_true, and_self, lkW, lkH, lkD]
    simp only [SK_nx, Ok_cons]
    simp +decide only [Ok_nil, SK_rt, FK_rt, FK_nx, evS, evE, evP, evEs, evQs, evPs, evO, evC, evI, Ok_bind, Ok_map, Ok_some, Ok_none, Ok_ite, getS, peekS, setS, wipeS, orc, permA, keyOf, List.map_cons, List.map_nil, List.cons_append, List.nil_append, List.append_nil, List.replicate, List.length_cons, List.length_nil, List.getElem?_cons_zero, List.getElem?_cons_succ, List.set_cons_zero, List.set_cons_succ, Option.map_some, Option.bind_some, asgT, asgTs, seqD, Ts.len, starD, List.take_succ_cons, List.take_zero, List.drop_succ_cons, List.drop_zero, List.take_nil, List.drop_nil, List.flatten_cons, List.flatten_nil, tp_n, tp_b, tp_i, tp_s, tp_t, tp_l, tp_d, tp_k, tp_c, tp_r0, tp_r1, ix_l, ix_t, ix_k, ix_d, ix_di, at0, at1, at2, at3, at4, at5, at6, at7, atm1, atm2, atm3, b_add, b_sub, b_mul, b_div, b_mod, b_pow, b_addT, b_addL, b_mulL, c_lt, c_le, c_gt, c_ge, c_eq, c_ne, c_eqs, c_nes, c_is, c_isnt, n_n, n_t, n_i, n_l, bl_b, int_i, f_len, f_lenT, f_min, f_max, f_abs, f_intB, f_int, f_tup, f_tupT, f_lst, f_lstT, f_sum, r_l0, r_l1, ints_map, c_neNil, c_ne00, sz0, pt0, pt1, pt2, if_true, if_false, ite_true, ite_false, if_false_right, if_false_left, decide_eq_true_eq, Bool.not_eq_true', Bool.not_true, Bool.not_false, decide_eq_false_iff_not, Bool.false_eq_true, reduceCtorEq, true_and, and_true, Int.reduceLT, Int.reduceLE, Int.reducePow, Int.reduceNeg, Int.reduceMul, Int.reduceAdd, Int.reduceSub, Int.reduceToNat, Int.reduceEq, na10, Nat.reducePow, Nat.reduceLT, Nat.reduceLeDiff, Nat.reduceAdd, Nat.reduceSub, true_or, or_true, and_self, lkW, lkH, lkD]
    refine Ok_at v0 (by simp only [List.length_cons, List.length_nil]; omega) fun r _ mr => ?_
    simp only [List.mem_cons, List.not_mem_nil, or_false] at mr
    rcases mr with rfl | rfl | rfl | rfl | rfl | rfl | rfl <;> exact q _ _ _ k3
  | over b m f l =>
    unfold Tk.t Bx.t
    simp only [Ok_cons]
    simp +decide only [Ok_nil, SK_rt, FK_rt, FK_nx, evS, evE, evP, evEs, evQs, evPs, evO, evC, evI, Ok_bind, Ok_map, Ok_some, Ok_none, Ok_ite, getS, peekS, setS, wipeS, orc, permA, keyOf, List.map_cons, List.map_nil, List.cons_append, List.nil_append, List.append_nil, List.replicate, List.length_cons, List.length_nil, List.getElem?_cons_zero, List.getElem?_cons_succ, List.set_cons_zero, List.set_cons_succ, Option.map_some, Option.bind_some, asgT, asgTs, seqD, Ts.len, starD, List.take_succ_cons, List.take_zero, List.drop_succ_cons, List.drop_zero, List.take_nil, List.drop_nil, List.flatten_cons, List.flatten_nil, tp_n, tp_b, tp_i, tp_s, tp_t, tp_l, tp_d, tp_k, tp_c, tp_r0, tp_r1, ix_l, ix_t, ix_k, ix_d, ix_di, at0, at1, at2, at3, at4, at5, at6, at7, atm1, atm2, atm3, b_add, b_sub, b_mul, b_div, b_mod, b_pow, b_addT, b_addL, b_mulL, c_lt, c_le, c_gt, c_ge, c_eq, c_ne, c_eqs, c_nes, c_is, c_isnt, n_n, n_t, n_i, n_l, bl_b, int_i, f_len, f_lenT, f_min, f_max, f_abs, f_intB, f_int, f_tup, f_tupT, f_lst, f_lstT, f_sum, r_l0, r_l1, ints_map, c_neNil, c_ne00, sz0, pt0, pt1, pt2, if_true, if_false, ite_true, ite_false, if_false_right, if_false_left, decide_eq_true_eq, Bool.not_eq_true', Bool.not_true, Bool.not_false, decide_eq_false_iff_not, Bool.false_eq_true, reduceCtorEq, true_and, and_true, Int.reduceLT, Int.reduceLE, Int.reducePow, Int.reduceNeg, Int.reduceMul, Int.reduceAdd, Int.reduceSub, Int.reduceToNat, Int.reduceEq, na10, Nat.reducePow, Nat.reduceLT, Nat.reduceLeDiff, Nat.reduceAdd, Nat.reduceSub, true_or, or_true, and_self, lkW, lkH, lkD]
    refine draw_ok dr hk (by omega) (by omega) fun v S1 v0 v1 k1 => ?_
    simp +decide only [Ok_nil, SK_rt, FK_rt, FK_nx, evS, evE, evP, evEs, evQs, evPs, evO, evC, evI, Ok_bind, Ok_map, Ok_some, Ok_none, Ok_ite, getS, peekS, setS, wipeS, orc, permA, keyOf, List.map_cons, List.map_nil, List.cons_append, List.nil_append, List.append_nil, List.replicate, List.length_cons, List.length_nil, List.getElem?_cons_zero, List.getElem?_cons_succ, List.set_cons_zero, List.set_cons_succ, Option.map_some, Option.bind_some, asgT, asgTs, seqD, Ts.len, starD, List.take_succ_cons, List.take_zero, List.drop_succ_cons, List.drop_zero, List.take_nil, List.drop_nil, List.flatten_cons, List.flatten_nil, tp_n, tp_b, tp_i, tp_s, tp_t, tp_l, tp_d, tp_k, tp_c, tp_r0, tp_r1, ix_l, ix_t, ix_k, ix_d, ix_di, at0, at1, at2, at3, at4, at5, at6, at7, atm1, atm2, atm3, b_add, b_sub, b_mul, b_div, b_mod, b_pow, b_addT, b_addL, b_mulL, c_lt, c_le, c_gt, c_ge, c_eq, c_ne, c_eqs, c_nes, c_is, c_isnt, n_n, n_t, n_i, n_l, bl_b, int_i, f_len, f_lenT, f_min, f_max, f_abs, f_intB, f_int, f_tup, f_tupT, f_lst, f_lstT, f_sum, r_l0, r_l1, ints_map, c_neNil, c_ne00, sz0, pt0, pt1, pt2, if_true, if_false, ite_true, ite_false, if_false_right, if_false_left, decide_eq_true_eq, Bool.not_eq_true', Bool.not_true, Bool.not_false, decide_eq_false_iff_not, Bool.false_eq_true, reduceCtorEq, true_and, and_true, Int.reduceLT, Int.reduceLE, Int.reducePow, Int.reduceNeg, Int.reduceMul, Int.reduceAdd, Int.reduceSub, Int.reduceToNat, Int.reduceEq, na10, Nat.reducePow, Nat.reduceLT, Nat.reduceLeDiff, Nat.reduceAdd, Nat.reduceSub, true_or, or_true, and_self, lkW, lkH, lkD]
    simp only [SK_nx, Ok_cons]
    simp +decide only [Ok_nil, SK_rt, FK_rt, FK_nx, evS, evE, evP, evEs, evQs, evPs, evO, evC, evI, Ok_bind, Ok_map, Ok_some, Ok_none, Ok_ite, getS, peekS, setS, wipeS, orc, permA, keyOf, List.map_cons, List.map_nil, List.cons_append, List.nil_append, List.append_nil, List.replicate, List.length_cons, List.length_nil, List.getElem?_cons_zero, List.getElem?_cons_succ, List.set_cons_zero, List.set_cons_succ, Option.map_some, Option.bind_some, asgT, asgTs, seqD, Ts.len, starD, List.take_succ_cons, List.take_zero, List.drop_succ_cons, List.drop_zero, List.take_nil, List.drop_nil, List.flatten_cons, List.flatten_nil, tp_n, tp_b, tp_i, tp_s, tp_t, tp_l, tp_d, tp_k, tp_c, tp_r0, tp_r1, ix_l, ix_t, ix_k, ix_d, ix_di, at0, at1, at2, at3, at4, at5, at6, at7, atm1, atm2, atm3, b_add, b_sub, b_mul, b_div, b_mod, b_pow, b_addT, b_addL, b_mulL, c_lt, c_le, c_gt, c_ge, c_eq, c_ne, c_eqs, c_nes, c_is, c_isnt, n_n, n_t, n_i, n_l, bl_b, int_i, f_len, f_lenT, f_min, f_max, f_abs, f_intB, f_int, f_tup, f_tupT, f_lst, f_lstT, f_sum, r_l0, r_l1, ints_map, c_neNil, c_ne00, sz0, pt0, pt1, pt2, if_true, if_false, ite_true, ite_false, if_false_right, if_false_left, decide_eq_true_eq, Bool.not_eq_true', Bool.not_true, Bool.not_false, decide_eq_false_iff_not, Bool.false_eq_true, reduceCtorEq, true_and, and_true, Int.reduceLT, Int.reduceLE, Int.reducePow, Int.reduceNeg, Int.reduceMul, Int.reduceAdd, Int.reduceSub, Int.reduceToNat, Int.reduceEq, na10, Nat.reducePow, Nat.reduceLT, Nat.reduceLeDiff, Nat.reduceAdd, Nat.reduceSub, true_or, or_true, and_self, lkW, lkH, lkD]
    simp only [SK_nx, Ok_cons]
    simp +decide only [Ok_nil, SK_rt, FK_rt, FK_nx, evS, evE, evP, evEs, evQs, evPs, evO, evC, evI, Ok_bind, Ok_map, Ok_some, Ok_none, Ok_ite, getS, peekS, setS, wipeS, orc, permA, keyOf, List.map_cons, List.map_nil, List.cons_append, List.nil_append, List.append_nil, List.replicate, List.length_cons, List.length_nil, List.getElem?_cons_zero, List.getElem?_cons_succ, List.set_cons_zero, List.set_cons_succ, Option.map_some, Option.bind_some, asgT, asgTs, seqD, Ts.len, starD, List.take_succ_cons, List.take_zero, List.drop_succ_cons, List.drop_zero, List.take_nil, List.drop_nil, List.flatten_cons, List.flatten_nil, tp_n, tp_b, tp_i, tp_s, tp_t, tp_l, tp_d, tp_k, tp_c, tp_r0, tp_r1, ix_l, ix_t, ix_k, ix_d, ix_di, at0, at1, at2, at3, at4, at5, at6, at7, atm1, atm2, atm3, b_add, b_sub, b_mul, b_div, b_mod, b_pow, b_addT, b_addL, b_mulL, c_lt, c_le, c_gt, c_ge, c_eq, c_ne, c_eqs, c_nes, c_is, c_isnt, n_n, n_t, n_i, n_l, bl_b, int_i, f_len, f_lenT, f_min, f_max, f_abs, f_intB, f_int, f_tup, f_tupT, f_lst, f_lstT, f_sum, r_l0, r_l1, ints_map, c_neNil, c_ne00, sz0, pt0, pt1, pt2, if_true, if_false, ite_true, ite_false, if_false_right, if_false_left, decide_eq_true_eq, Bool.not_eq_true', Bool.not_true, Bool.not_false, decide_eq_false_iff_not, Bool.false_eq_true, reduceCtorEq, true_and, and_true, Int.reduceLT, Int.reduceLE, Int.reducePow, Int.reduceNeg, Int.reduceMul, Int.reduceAdd, Int.reduceSub, Int.reduceToNat, Int.reduceEq, na10, Nat.reducePow, Nat.reduceLT, Nat.reduceLeDiff, Nat.reduceAdd, Nat.reduceSub, true_or, or_true, and_self, lkW, lkH, lkD]
    simp only [SK_nx, Ok_cons]
    simp +decide only [Ok_nil, SK_rt, FK_rt, FK_nx, evS, evE, evP, evEs, evQs, evPs, evO, evC, evI, Ok_bind, Ok_map, Ok_some, Ok_none, Ok_ite, getS, peekS, setS, wipeS, orc, permA, keyOf, List.map_cons, List.map_nil, List.cons_append, List.nil_append, List.append_nil, List.replicate, List.length_cons, List.length_nil, List.getElem?_cons_zero, List.getElem?_cons_succ, List.set_cons_zero, List.set_cons_succ, Option.map_some, Option.bind_some, asgT, asgTs, seqD, Ts.len, starD, List.take_succ_cons, List.take_zero, List.drop_succ_cons, List.drop_zero, List.take_nil, List.drop_nil, List.flatten_cons, List.flatten_nil, tp_n, tp_b, tp_i, tp_s, tp_t, tp_l, tp_d, tp_k, tp_c, tp_r0, tp_r1, ix_l, ix_t, ix_k, ix_d, ix_di, at0, at1, at2, at3, at4, at5, at6, at7, atm1, atm2, atm3, b_add, b_sub, b_mul, b_div, b_mod, b_pow, b_addT, b_addL, b_mulL, c_lt, c_le, c_gt, c_ge, c_eq, c_ne, c_eqs, c_nes, c_is, c_isnt, n_n, n_t, n_i, n_l, bl_b, int_i, f_len, f_lenT, f_min, f_max, f_abs, f_intB, f_int, f_tup, f_tupT, f_lst, f_lstT, f_sum, r_l0, r_l1, ints_map, c_neNil, c_ne00, sz0, pt0, pt1, pt2, if_true, if_false, ite_true, ite_false, if_false_right, if_false_left, decide_eq_true_eq, Bool.not_eq_true', Bool.not_true, Bool.not_false, decide_eq_false_iff_not, Bool.false_eq_true, reduceCtorEq, true_and, and_true, Int.reduceLT, Int.reduceLE, Int.reducePow, Int.reduceNeg, Int.reduceMul, Int.reduceAdd, Int.reduceSub, Int.reduceToNat, Int.reduceEq, na10, Nat.reducePow, Nat.reduceLT, Nat.reduceLeDiff, Nat.reduceAdd, Nat.reduceSub, true_or, or_true, and_self, lkW, lkH, lkD]
    simp only [SK_nx, Ok_cons]
    simp +decide only [Ok_nil, SK_rt, FK_rt, FK_nx, evS, evE, evP, evEs, evQs, evPs, evO, evC, evI, Ok_bind, Ok_map, Ok_some, Ok_none, Ok_ite, getS, peekS, setS, wipeS, orc, permA, keyOf, List.map_cons, List.map_nil, List.cons_append, List.nil_append, List.append_nil, List.replicate, List.length_cons, List.length_nil, List.getElem?_cons_zero, List.getElem?_cons_succ, List.set_cons_zero, List.set_cons_succ, Option.map_some, Option.bind_some, asgT, asgTs, seqD, Ts.len, starD, List.take_succ_cons, List.take_zero, List.drop_succ_cons, List.drop_zero, List.take_nil, List.drop_nil, List.flatten_cons, List.flatten_nil, tp_n, tp_b, tp_i, tp_s, tp_t, tp_l, tp_d, tp_k, tp_c, tp_r0, tp_r1, ix_l, ix_t, ix_k, ix_d, ix_di, at0, at1, at2, at3, at4, at5, at6, at7, atm1, atm2, atm3, b_add, b_sub, b_mul, b_div, b_mod, b_pow, b_addT, b_addL, b_mulL, c_lt, c_le, c_gt, c_ge, c_eq, c_ne, c_eqs, c_nes, c_is, c_isnt, n_n, n_t, n_i, n_l, bl_b, int_i, f_len, f_lenT, f_min, f_max, f_abs, f_intB, f_int, f_tup, f_tupT, f_lst, f_lstT, f_sum, r_l0, r_l1, ints_map, c_neNil, c_ne00, sz0, pt0, pt1, pt2, if_true, if_false, ite_true, ite_false, if_false_right, if_false_left, decide_eq_true_eq, Bool.not_eq_true', Bool.not_true, Bool.not_false, decide_eq_false_iff_not, Bool.false_eq_true, reduceCtorEq, true_and, and_true, Int.reduceLT, Int.reduceLE, Int.reducePow, Int.reduceNeg, Int.reduceMul, Int.reduceAdd, Int.reduceSub, Int.reduceToNat, Int.reduceEq, na10, Nat.reducePow, Nat.reduceLT, Nat.reduceLeDiff, Nat.reduceAdd, Nat.reduceSub, true_or, or_true, and_self, lkW, lkH, lkD]
    refine draw_ok dr k1 (by omega) (by omega) fun x S2 x0 x1 k2 => ?_
    simp +decide only [Ok_nil, SK_rt, FK_rt, FK_nx, evS, evE, evP, evEs, evQs, evPs, evO, evC, evI, Ok_bind, Ok_map, Ok_some, Ok_none, Ok_ite, getS, peekS, setS, wipeS, orc, permA, keyOf, List.map_cons, List.map_nil, List.cons_append, List.nil_append, List.append_nil, List.replicate, List.length_cons, List.length_nil, List.getElem?_cons_zero, List.getElem?_cons_succ, List.set_cons_zero, List.set_cons_succ, Option.map_some, Option.bind_some, asgT, asgTs, seqD, Ts.len, starD, List.take_succ_cons, List.take_zero, List.drop_succ_cons, List.drop_zero, List.take_nil, List.drop_nil, List.flatten_cons, List.flatten_nil, tp_n, tp_b, tp_i, tp_s, tp_t, tp_l, tp_d, tp_k, tp_c, tp_r0, tp_r1, ix_l, ix_t, ix_k, ix_d, ix_di, at0, at1, at2, at3, at4, at5, at6, at7, atm1, atm2, atm3, b_add, b_sub, b_mul, b_div, b_mod, b_pow, b_addT, b_addL, b_mulL, c_lt, c_le, c_gt, c_ge, c_eq, c_ne, c_eqs, c_nes, c_is, c_isnt, n_n, n_t, n_i, n_l, bl_b, int_i, f_len, f_lenT, f_min, f_max, f_abs, f_intB, f_int, f_tup, f_tupT, f_lst, f_lstT, f_sum, r_l0, r_l1, ints_map, c_neNil, c_ne00, sz0, pt0, pt1, pt2, if_true, if_false, ite_true, ite_false, if_false_right, if_false_left, decide_eq_true_eq, Bool.not_eq_true', Bool.not_true, Bool.not_false, decide_eq_false_iff_not, Bool.false_eq_true, reduceCtorEq, true_and, and_true, Int.reduceLT, Int.reduceLE, Int.reducePow, Int.reduceNeg, Int.reduceMul, Int.reduceAdd, Int.reduceSub, Int.reduceToNat, Int.reduceEq, na10, Nat.reducePow, Nat.reduceLT, Nat.reduceLeDiff, Nat.reduceAdd, Nat.reduceSub, true_or, or_true, and_self, lkW, lkH, lkD]
    refine draw_ok dr k2 (by omega) (by omega) fun y S3 y0 y1 k3 => ?_
    simp +decide only [Ok_nil, SK_rt, FK_rt, FK_nx, evS, evE, evP, evEs, evQs, evPs, evO, evC, evI, Ok_bind, Ok_map, Ok_some, Ok_none, Ok_ite, getS, peekS, setS, wipeS, orc, permA, keyOf, List.map_cons, List.map_nil, List.cons_append, List.nil_append, List.append_nil, List.replicate, List.length_cons, List.length_nil, List.getElem?_cons_zero, List.getElem?_cons_succ, List.set_cons_zero, List.set_cons_succ, Option.map_some, Option.bind_some, asgT, asgTs, seqD, Ts.len, starD, List.take_succ_cons, List.take_zero, List.drop_succ_cons, List.drop_zero, List.take_nil, List.drop_nil, List.flatten_cons, List.flatten_nil, tp_n, tp_b, tp_i, tp_s, tp_t, tp_l, tp_d, tp_k, tp_c, tp_r0, tp_r1, ix_l, ix_t, ix_k, ix_d, ix_di, at0, at1, at2, at3, at4, at5, at6, at7, atm1, atm2, atm3, b_add, b_sub, b_mul, b_div, b_mod, b_pow, b_addT, b_addL, b_mulL, c_lt, c_le, c_gt, c_ge, c_eq, c_ne, c_eqs, c_nes, c_is, c_isnt, n_n, n_t, n_i, n_l, bl_b, int_i, f_len, f_lenT, f_min, f_max, f_abs, f_intB, f_int, f_tup, f_tupT, f_lst, f_lstT, f_sum, r_l0, r_l1, ints_map, c_neNil, c_ne00, sz0, pt0, pt1, pt2, if_true, if_false, ite_true, ite_false, if_false_right, if_false_left, decide_eq_true_eq, Bool.not_eq_true', Bool.not_true, Bool.not_false, decide_eq_false_iff_not, Bool.false_eq_true, reduceCtorEq, true_and, and_true, Int.reduceLT, Int.reduceLE, Int.reducePow, Int.reduceNeg, Int.reduceMul, Int.reduceAdd, Int.reduceSub, Int.reduceToNat, Int.reduceEq, na10, Nat.reducePow, Nat.reduceLT, Nat.reduceLeDiff, Nat.reduceAdd, Nat.reduceSub, true_or, or_true, and_self, lkW, lkH, lkD]
    simp only [SK_nx, Ok_cons]
    simp +decide only [Ok_nil, SK_rt, FK_rt, FK_nx, evS, evE, evP, evEs, evQs, evPs, evO, evC, evI, Ok_bind, Ok_map, Ok_some, Ok_none, Ok_ite, getS, peekS, setS, wipeS, orc, permA, keyOf, List.map_cons, List.map_nil, List.cons_append, List.nil_append, List.append_nil, List.replicate, List.length_cons, List.length_nil, List.getElem?_cons_zero, List.getElem?_cons_succ, List.set_cons_zero, List.set_cons_succ, Option.map_some, Option.bind_some, asgT, asgTs, seqD, Ts.len, starD, List.take_succ_cons, List.take_zero, List.drop_succ_cons, List.drop_zero, List.take_nil, List.drop_nil, List.flatten_cons, List.flatten_nil, tp_n, tp_b, tp_i, tp_s, tp_t, tp_l, tp_d, tp_k, tp_c, tp_r0, tp_r1, ix_l, ix_t, ix_k, ix_d, ix_di, at0, at1, at2, at3, at4, at5, at6, at7, atm1, atm2, atm3, b_add, b_sub, b_mul, b_div, b_mod, b_pow, b_addT, b_addL, b_mulL, c_lt, c_le, c_gt, c_ge, c_eq, c_ne, c_eqs, c_nes, c_is, c_isnt, n_n, n_t, n_i, n_l, bl_b, int_i, f_len, f_lenT, f_min, f_max, f_abs, f_intB, f_int, f_tup, f_tupT, f_lst, f_lstT, f_sum, r_l0, r_l1, ints_map, c_neNil, c_ne00, sz0, pt0, pt1, pt2, if_true, if_false, ite_true, ite_false, if_false_right, if_false_left, decide_eq_true_eq, Bool.not_eq_true', Bool.not_true, Bool.not_false, decide_eq_false_iff_not, Bool.false_eq_true, reduceCtorEq, true_and, and_true, Int.reduceLT, Int.reduceLE, Int.reducePow, Int.reduceNeg, Int.reduceMul, Int.reduceAdd, Int.reduceSub, Int.reduceToNat, Int.reduceEq, na10, Nat.reducePow, Nat.reduceLT, Nat.reduceLeDiff, Nat.reduceAdd, Nat.reduceSub, true_or, or_true, and_self, lkW, lkH, lkD]
    simp only [SK_nx, Ok_cons]
    simp +decide only [Ok_nil, SK_rt, FK_rt, FK_nx, evS, evE, evP, evEs, evQs, evPs, evO, evC, evI, Ok_bind, Ok_map, Ok_some, Ok_none, Ok_ite, getS, peekS, setS, wipeS, orc, permA, keyOf, List.map_cons, List.map_nil, List.cons_append, List.nil_append, List.append_nil, List.replicate, List.length_cons, List.length_nil, List.getElem?_cons_zero, List.getElem?_cons_succ, List.set_cons_zero, List.set_cons_succ, Option.map_some, Option.bind_some, asgT, asgTs, seqD, Ts.len, starD, List.take_succ_cons, List.take_zero, List.drop_succ_cons, List.drop_zero, List.take_nil, List.drop_nil, List.flatten_cons, List.flatten_nil, tp_n, tp_b, tp_i, tp_s, tp_t, tp_l, tp_d, tp_k, tp_c, tp_r0, tp_r1, ix_l, ix_t, ix_k, ix_d, ix_di, at0, at1, at2, at3, at4, at5, at6, at7, atm1, atm2, atm3, b_add, b_sub, b_mul, b_div, b_mod, b_pow, b_addT, b_addL, b_mulL, c_lt, c_le, c_gt, c_ge, c_eq, c_ne, c_eqs, c_nes, c_is, c_isnt, n_n, n_t, n_i, n_l, bl_b, int_i, f_len, f_lenT, f_min, f_max, f_abs, f_intB, f_int, f_tup, f_tupT, f_lst, f_lstT, f_sum, r_l0, r_l1, ints_map, c_neNil, c_ne00, sz0, pt0, pt1, pt2, if_true, if_false, ite_true, ite_false, if_false_right, if_false_left, decide_eq_true_eq, Bool.not_eq_true', Bool.not_true, Bool.not_false, decide_eq_false_iff_not, Bool.false_eq_true, reduceCtorEq, true_and, and_true, Int.reduceLT, Int.reduceLE, Int.reducePow, Int.reduceNeg, Int.reduceMul, Int.reduceAdd, Int.reduceSub, Int.reduceToNat, Int.reduceEq, na10, Nat.reducePow, Nat.reduceLT, Nat.reduceLeDiff, Nat.reduceAdd, Nat.reduceSub, true_or, or_true, and_self, lkW, lkH, lkD]
    refine Ok_at v0 (by simp only [List.length_cons, List.length_nil]; omega) fun r _ mr => ?_
    simp only [List.mem_cons, List.not_mem_nil, or_false] at mr
    rcases mr with rfl | rfl | rfl | rfl | rfl | rfl | rfl <;> exact q _ _ _ k3
  | bring b o m f l =>
    unfold Tk.t Bx.t
    simp only [Ok_cons]
    simp +decide only [Ok_nil, SK_rt, FK_rt, FK_nx, evS, evE, evP, evEs, evQs, evPs, evO, evC, evI, Ok_bind, Ok_map, Ok_some, Ok_none, Ok_ite, getS, peekS, setS, wipeS, orc, permA, keyOf, List.map_cons, List.map_nil, List.cons_append, List.nil_append, List.append_nil, List.replicate, List.length_cons, List.length_nil, List.getElem?_cons_zero, List.getElem?_cons_succ, List.set_cons_zero, List.set_cons_succ, Option.map_some, Option.bind_some, asgT, asgTs, seqD, Ts.len, starD, List.take_succ_cons, List.take_zero, List.drop_succ_cons, List.drop_zero, List.take_nil, List.drop_nil, List.flatten_cons, List.flatten_nil, tp_n, tp_b, tp_i, tp_s, tp_t, tp_l, tp_d, tp_k, tp_c, tp_r0, tp_r1, ix_l, ix_t, ix_k, ix_d, ix_di, at0, at1, at2, at3, at4, at5, at6, at7, atm1, atm2, atm3, b_add, b_sub, b_mul, b_div, b_mod, b_pow, b_addT, b_addL, b_mulL, c_lt, c_le, c_gt, c_ge, c_eq, c_ne, c_eqs, c_nes, c_is, c_isnt, n_n, n_t, n_i, n_l, bl_b, int_i, f_len, f_lenT, f_min, f_max, f_abs, f_intB, f_int, f_tup, f_tupT, f_lst, f_lstT, f_sum, r_l0, r_l1, ints_map, c_neNil, c_ne00, sz0, pt0, pt1, pt2, if_true, if_false, ite_true, ite_false, if_false_right, if_false_left, decide_eq_true_eq, Bool.not_eq_true', Bool.not_true, Bool.not_false, decide_eq_false_iff_not, Bool.false_eq_true, reduceCtorEq, true_and, and_true, Int.reduceLT, Int.reduceLE, Int.reducePow, Int.reduceNeg, Int.reduceMul, Int.reduceAdd, Int.reduceSub, Int.reduceToNat, Int.reduceEq, na10, Nat.reducePow, Nat.reduceLT, Nat.reduceLeDiff, Nat.reduceAdd, Nat.reduceSub, true_or, or_true, and_self, lkW, lkH, lkD]
    refine draw_ok dr hk (by omega) (by omega) fun v S1 v0 v1 k1 => ?_
    simp +decide only [Ok_nil, SK_rt, FK_rt, FK_nx, evS, evE, evP, evEs, evQs, evPs, evO, evC, evI, Ok_bind, Ok_map, Ok_some, Ok_none, Ok_ite, getS, peekS, setS, wipeS, orc, permA, keyOf, List.map_cons, List.map_nil, List.cons_append, List.nil_append, List.append_nil, List.replicate, List.length_cons, List.length_nil, List.getElem?_cons_zero, List.getElem?_cons_succ, List.set_cons_zero, List.set_cons_succ, Option.map_some, Option.bind_some, asgT, asgTs, seqD, Ts.len, starD, List.take_succ_cons, List.take_zero, List.drop_succ_cons, List.drop_zero, List.take_nil, List.drop_nil, List.flatten_cons, List.flatten_nil, tp_n, tp_b, tp_i, tp_s, tp_t, tp_l, tp_d, tp_k, tp_c, tp_r0, tp_r1, ix_l, ix_t, ix_k, ix_d, ix_di, at0, at1, at2, at3, at4, at5, at6, at7, atm1, atm2, atm3, b_add, b_sub, b_mul, b_div, b_mod, b_pow, b_addT, b_addL, b_mulL, c_lt, c_le, c_gt, c_ge, c_eq, c_ne, c_eqs, c_nes, c_is, c_isnt, n_n, n_t, n_i, n_l, bl_b, int_i, f_len, f_lenT, f_min, f_max, f_abs, f_intB, f_int, f_tup, f_tupT, f_lst, f_lstT, f_sum, r_l0, r_l1, ints_map, c_neNil, c_ne00, sz0, pt0, pt1, pt2, if_true, if_false, ite_true, ite_false, if_false_right, if_false_left, decide_eq_true_eq, Bool.not_eq_true', Bool.not_true, Bool.not_false, decide_eq_false_iff_not, Bool.false_eq_true, reduceCtorEq, true_and, and_true, Int.reduceLT, Int.reduceLE, Int.reducePow, Int.reduceNeg, Int.reduceMul, Int.reduceAdd, Int.reduceSub, Int.reduceToNat, Int.reduceEq, na10, Nat.reducePow, Nat.reduceLT, Nat.reduceLeDiff, Nat.reduceAdd, Nat.reduceSub, true_or, or_true, and_self, lkW, lkH, lkD]
    simp only [SK_nx, Ok_cons]
    simp +decide only [Ok_nil, SK_rt, FK_rt, FK_nx, evS, evE, evP, evEs, evQs, evPs, evO, evC, evI, Ok_bind, Ok_map, Ok_some, Ok_none, Ok_ite, getS, peekS, setS, wipeS, orc, permA, keyOf, List.map_cons, List.map_nil, List.cons_append, List.nil_append, List.append_nil, List.replicate, List.length_cons, List.length_nil, List.getElem?_cons_zero, List.getElem?_cons_succ, List.set_cons_zero, List.set_cons_succ, Option.map_some, Option.bind_some, asgT, asgTs, seqD, Ts.len, starD, List.take_succ_cons, List.take_zero, List.drop_succ_cons, List.drop_zero, List.take_nil, List.drop_nil, List.flatten_cons, List.flatten_nil, tp_n, tp_b, tp_i, tp_s, tp_t, tp_l, tp_d, tp_k, tp_c, tp_r0, tp_r1, ix_l, ix_t, ix_k, ix_d, ix_di, at0, at1, at2, at3, at4, at5, at6, at7, atm1, atm2, atm3, b_add, b_sub, b_mul, b_div, b_mod, b_pow, b_addT, b_addL, b_mulL, c_lt, c_le, c_gt, c_ge, c_eq, c_ne, c_eqs, c_nes, c_is, c_isnt, n_n, n_t, n_i, n_l, bl_b, int_i, f_len, f_lenT, f_min, f_max, f_abs, f_intB, f_int, f_tup, f_tupT, f_lst, f_lstT, f_sum, r_l0, r_l1, ints_map, c_neNil, c_ne00, sz0, pt0, pt1, pt2, if_true, if_false, ite_true, ite_false, if_false_right, if_false_left, decide_eq_true_eq, Bool.not_eq_true', Bool.not_true, Bool.not_false, decide_eq_false_iff_not, Bool.false_eq_true, reduceCtorEq, true_and, and_true, Int.reduceLT, Int.reduceLE, Int.reducePow, Int.reduceNeg, Int.reduceMul, Int.reduceAdd, Int.reduceSub, Int.reduceToNat, Int.reduceEq, na10, Nat.reducePow, Nat.reduceLT, Nat.reduceLeDiff, Nat.reduceAdd, Nat.reduceSub, true_or, or_true, and_self, lkW, lkH, lkD]
    simp only [SK_nx, Ok_cons]
    simp +decide only [Ok_nil, SK_rt, FK_rt, FK_nx, evS, evE, evP, evEs, evQs, evPs, evO, evC, evI, Ok_bind, Ok_map, Ok_some, Ok_none, Ok_ite, getS, peekS, setS, wipeS, orc, permA, keyOf, List.map_cons, List.map_nil, List.cons_append, List.nil_append, List.append_nil, List.replicate, List.length_cons, List.length_nil, List.getElem?_cons_zero, List.getElem?_cons_succ, List.set_cons_zero, List.set_cons_succ, Option.map_some, Option.bind_some, asgT, asgTs, seqD, Ts.len, starD, List.take_succ_cons, List.take_zero, List.drop_succ_cons, List.drop_zero, List.take_nil, List.drop_nil, List.flatten_cons, List.flatten_nil, tp_n, tp_b, tp_i, tp_s, tp_t, tp_l, tp_d, tp_k, tp_c, tp_r0, tp_r1, ix_l, ix_t, ix_k, ix_d, ix_di, at0, at1, at2, at3, at4, at5, at6, at7, atm1, atm2, atm3, b_add, b_sub, b_mul, b_div, b_mod, b_pow, b_addT, b_addL, b_mulL, c_lt, c_le, c_gt, c_ge, c_eq, c_ne, c_eqs, c_nes, c_is, c_isnt, n_n, n_t, n_i, n_l, bl_b, int_i, f_len, f_lenT, f_min, f_max, f_abs, f_intB, f_int, f_tup, f_tupT, f_lst, f_lstT, f_sum, r_l0, r_l1, ints_map, c_neNil, c_ne00, sz0, pt0, pt1, pt2, if_true, if_false, ite_true, ite_false, if_false_right, if_false_left, decide_eq_true_eq, Bool.not_eq_true', Bool.not_true, Bool.not_false, decide_eq_false_iff_not, Bool.false_eq_true, reduceCtorEq, true_and, and_true, Int.reduceLT, Int.reduceLE, Int.reducePow, Int.reduceNeg, Int.reduceMul, Int.reduceAdd, Int.reduceSub, Int.reduceToNat, Int.reduceEq, na10, Nat.reducePow, Nat.reduceLT, Nat.reduceLeDiff, Nat.reduceAdd, Nat.reduceSub, true_or, or_true, and_self, lkW, lkH, lkD]
    refine draw_ok dr k1 (by omega) (by omega) fun z S4 z0 z1 k4 => ?_
    simp +decide only [Ok_nil, SK_rt, FK_rt, FK_nx, evS, evE, evP, evEs, evQs, evPs, evO, evC, evI, Ok_bind, Ok_map, Ok_some, Ok_none, Ok_ite, getS, peekS, setS, wipeS, orc, permA, keyOf, List.map_cons, List.map_nil, List.cons_append, List.nil_append, List.append_nil, List.replicate, List.length_cons, List.length_nil, List.getElem?_cons_zero, List.getElem?_cons_succ, List.set_cons_zero, List.set_cons_succ, Option.map_some, Option.bind_some, asgT, asgTs, seqD, Ts.len, starD, List.take_succ_cons, List.take_zero, List.drop_succ_cons, List.drop_zero, List.take_nil, List.drop_nil, List.flatten_cons, List.flatten_nil, tp_n, tp_b, tp_i, tp_s, tp_t, tp_l, tp_d, tp_k, tp_c, tp_r0, tp_r1, ix_l, ix_t, ix_k, ix_d, ix_di, at0, at1, at2, at3, at4, at5, at6, at7, atm1, atm2, atm3, b_add, b_sub, b_mul, b_div, b_mod, b_pow, b_addT, b_addL, b_mulL, c_lt, c_le, c_gt, c_ge, c_eq, c_ne, c_eqs, c_nes, c_is, c_isnt, n_n, n_t, n_i, n_l, bl_b, int_i, f_len, f_lenT, f_min, f_max, f_abs, f_intB, f_int, f_tup, f_tupT, f_lst, f_lstT, f_sum, r_l0, r_l1, ints_map, c_neNil, c_ne00, sz0, pt0, pt1, pt2, if_true, if_false, ite_true, ite_false, if_false_right, if_false_left, decide_eq_true_eq, Bool.not_eq_true', Bool.not_true, Bool.not_false, decide_eq_false_iff_not, Bool.false_eq_true, reduceCtorEq, true_and, and_true, Int.reduceLT, Int.reduceLE, Int.reducePow, Int.reduceNeg, Int.reduceMul, Int.reduceAdd, Int.reduceSub, Int.reduceToNat, Int.reduceEq, na10, Nat.reducePow, Nat.reduceLT, Nat.reduceLeDiff, Nat.reduceAdd, Nat.reduceSub, true_or, or_true, and_self, lkW, lkH, lkD]
    split
    · simp only [SK_nx, Ok_cons]
      simp +decide only [Ok_nil, SK_rt, FK_rt, FK_nx, evS, evE, evP, evEs, evQs, evPs, evO, evC, evI, Ok_bind, Ok_map, Ok_some, Ok_none, Ok_ite, getS, peekS, setS, wipeS, orc, permA, keyOf, List.map_cons, List.map_nil, List.cons_append, List.nil_append, List.append_nil, List.replicate, List.length_cons, List.length_nil, List.getElem?_cons_zero, List.getElem?_cons_succ, List.set_cons_zero, List.set_cons_succ, Option.map_some, Option.bind_some, asgT, asgTs, seqD, Ts.len, starD, List.take_succ_cons, List.take_zero, List.drop_succ_cons, List.drop_zero, List.take_nil, List.drop_nil, List.flatten_cons, List.flatten_nil, tp_n, tp_b, tp_i, tp_s, tp_t, tp_l, tp_d, tp_k, tp_c, tp_r0, tp_r1, ix_l, ix_t, ix_k, ix_d, ix_di, at0, at1, at2, at3, at4, at5, at6, at7, atm1, atm2, atm3, b_add, b_sub, b_mul, b_div, b_mod, b_pow, b_addT, b_addL, b_mulL, c_lt, c_le, c_gt, c_ge, c_eq, c_ne, c_eqs, c_nes, c_is, c_isnt, n_n, n_t, n_i, n_l, bl_b, int_i, f_len, f_lenT, f_min, f_max, f_abs, f_intB, f_int, f_tup, f_tupT, f_lst, f_lstT, f_sum, r_l0, r_l1, ints_map, c_neNil, c_ne00, sz0, pt0, pt1, pt2, if_true, if_false, ite_true, ite_false, if_false_right, if_false_left, decide_eq_true_eq, Bool.not_eq_true', Bool.not_true, Bool.not_false, decide_eq_false_iff_not, Bool.false_eq_true, reduceCtorEq, true_and, and_true, Int.reduceLT, Int.reduceLE, Int.reducePow, Int.reduceNeg, Int.reduceMul, Int.reduceAdd, Int.reduceSub, Int.reduceToNat, Int.reduceEq, na10, Nat.reducePow, Nat.reduceLT, Nat.reduceLeDiff, Nat.reduceAdd, Nat.reduceSub, true_or, or_true, and_self, lkW, lkH, lkD]
      simp only [SK_nx, Ok_cons]
      simp +decide only [Ok_nil, SK_rt, FK_rt, FK_nx, evS, evE, evP, evEs, evQs, evPs, evO, evC, evI, Ok_bind, Ok_map, Ok_some, Ok_none, Ok_ite, getS, peekS, setS, wipeS, orc, permA, keyOf, List.map_cons, List.map_nil, List.cons_append, List.nil_append, List.append_nil, List.replicate, List.length_cons, List.length_nil, List.getElem?_cons_zero, List.getElem?_cons_succ, List.set_cons_zero, List.set_cons_succ, Option.map_some, Option.bind_some, asgT, asgTs, seqD, Ts.len, starD, List.take_succ_cons, List.take_zero, List.drop_succ_cons, List.drop_zero, List.take_nil, List.drop_nil, List.flatten_cons, List.flatten_nil, tp_n, tp_b, tp_i, tp_s, tp_t, tp_l, tp_d, tp_k, tp_c, tp_r0, tp_r1, ix_l, ix_t, ix_k, ix_d, ix_di, at0, at1, at2, at3, at4, at5, at6, at7, atm1, atm2, atm3, b_add, b_sub, b_mul, b_div, b_mod, b_pow, b_addT, b_addL, b_mulL, c_lt, c_le, c_gt, c_ge, c_eq, c_ne, c_eqs, c_nes, c_is, c_isnt, n_n, n_t, n_i, n_l, bl_b, int_i, f_len, f_lenT, f_min, f_max, f_abs, f_intB, f_int, f_tup, f_tupT, f_lst, f_lstT, f_sum, r_l0, r_l1, ints_map, c_neNil, c_ne00, sz0, pt0, pt1, pt2, if_true, if_false, ite_true, ite_false, if_false_right, if_false_left, decide_eq_true_eq, Bool.not_eq_true', Bool.not_true, Bool.not_false, decide_eq_false_iff_not, Bool.false_eq_true, reduceCtorEq, true_and, and_true, Int.reduceLT, Int.reduceLE, Int.reducePow, Int.reduceNeg, Int.reduceMul, Int.reduceAdd, Int.reduceSub, Int.reduceToNat, Int.reduceEq, na10, Nat.reducePow, Nat.reduceLT, Nat.reduceLeDiff, Nat.reduceAdd, Nat.reduceSub, true_or, or_true, and_self, lkW, lkH, lkD]
      refine draw_ok dr k4 (by omega) (by omega) fun x S2 x0 x1 k2 => ?_
      simp +decide only [Ok_nil, SK_rt, FK_rt, FK_nx, evS, evE, evP, evEs, evQs, evPs, evO, evC, evI, Ok_bind, Ok_map, Ok_some, Ok_none, Ok_ite, getS, peekS, setS, wipeS, orc, permA, keyOf, List.map_cons, List.map_nil, List.cons_append, List.nil_append, List.append_nil, List.replicate, List.length_cons, List.length_nil, List.getElem?_cons_zero, List.getElem?_cons_succ, List.set_cons_zero, List.set_cons_succ, Option.map_some, Option.bind_some, asgT, asgTs, seqD, Ts.len, starD, List.take_succ_cons, List.take_zero, List.drop_succ_cons, List.drop_zero, List.take_nil, List.drop_nil, List.flatten_cons, List.flatten_nil, tp_n, tp_b, tp_i, tp_s, tp_t, tp_l, tp_d, tp_k, tp_c, tp_r0, tp_r1, ix_l, ix_t, ix_k, ix_d, ix_di, at0, at1, at2, at3, at4, at5, at6, at7, atm1, atm2, atm3, b_add, b_sub, b_mul, b_div, b_mod, b_pow, b_addT, b_addL, b_mulL, c_lt, c_le, c_gt, c_ge, c_eq, c_ne, c_eqs, c_nes, c_is, c_isnt, n_n, n_t, n_i, n_l, bl_b, int_i, f_len, f_lenT, f_min, f_max, f_abs, f_intB, f_int, f_tup, f_tupT, f_lst, f_lstT, f_sum, r_l0, r_l1, ints_map, c_neNil, c_ne00, sz0, pt0, pt1, pt2, if_true, if_false, ite_true, ite_false, if_false_right, if_false_left, decide_eq_true_eq, Bool.not_eq_true', Bool.not_true, Bool.not_false, decide_eq_false_iff_not, Bool.false_eq_true, reduceCtorEq, true_and, and_true, Int.reduceLT, Int.reduceLE, Int.reducePow, Int.reduceNeg, Int.reduceMul, Int.reduceAdd, Int.reduceSub, Int.reduceToNat, Int.reduceEq, na10, Nat.reducePow, Nat.reduceLT, Nat.reduceLeDiff, Nat.reduceAdd, Nat.reduceSub, true_or, or_true, and_self, lkW, lkH, lkD]
      refine draw_ok dr k2 (by omega) (by omega) fun y S3 y0 y1 k3 => ?_
      simp +decide only [Ok_nil, SK_rt, FK_rt, FK_nx, evS, evE, evP, evEs, evQs, evPs, evO, evC, evI, Ok_bind, Ok_map, Ok_some, Ok_none, Ok_ite, getS, peekS, setS, wipeS, orc, permA, keyOf, List.map_cons, List.map_nil, List.cons_append, List.nil_append, List.append_nil, List.replicate, List.length_cons, List.length_nil, List.getElem?_cons_zero, List.getElem?_cons_succ, List.set_cons_zero, List.set_cons_succ, Option.map_some, Option.bind_some, asgT, asgTs, seqD, Ts.len, starD, List.take_succ_cons, List.take_zero, List.drop_succ_cons, List.drop_zero, List.take_nil, List.drop_nil, List.flatten_cons, List.flatten_nil, tp_n, tp_b, tp_i, tp_s, tp_t, tp_l, tp_d, tp_k, tp_c, tp_r0, tp_r1, ix_l, ix_t, ix_k, ix_d, ix_di, at0, at1, at2, at3, at4, at5, at6, at7, atm1, atm2, atm3, b_add, b_sub, b_mul, b_div, b_mod, b_pow, b_addT, b_addL, b_mulL, c_lt, c_le, c_gt, c_ge, c_eq, c_ne, c_eqs, c_nes, c_is, c_isnt, n_n, n_t, n_i, n_l, bl_b, int_i, f_len, f_lenT, f_min, f_max, f_abs, f_intB, f_int, f_tup, f_tupT, f_lst, f_lstT, f_sum, r_l0, r_l1, ints_map, c_neNil, c_ne00, sz0, pt0, pt1, pt2, if_true, if_false, ite_true, ite_false, if_false_right, if_false_left, decide_eq_true_eq, Bool.not_eq_true', Bool.not_true, Bool.not_false, decide_eq_false_iff_not, Bool.false_eq_true, reduceCtorEq, true_and, and_true, Int.reduceLT, Int.reduceLE, Int.reducePow, Int.reduceNeg, Int.reduceMul, Int.reduceAdd, Int.reduceSub, Int.reduceToNat, Int.reduceEq, na10, Nat.reducePow, Nat.reduceLT, Nat.reduceLeDiff, Nat.reduceAdd, Nat.reduceSub, true_or, or_true, and_self, lkW, lkH, lkD]
      simp only [SK_nx, Ok_cons]
      simp +decide only [Ok_nil, SK_rt, FK_rt, FK_nx, evS, evE, evP, evEs, evQs, evPs, evO, evC, evI, Ok_bind, Ok_map, Ok_some, Ok_none, Ok_ite, getS, peekS, setS, wipeS, orc, permA, keyOf, List.map_cons, List.map_nil, List.cons_append, List.nil_append, List.append_nil, List.replicate, List.length_cons, List.length_nil, List.getElem?_cons_zero, List.getElem?_cons_succ, List.set_cons_zero, List.set_cons_succ, Option.map_some, Option.bind_some, asgT, asgTs, seqD, Ts.len, starD, List.take_succ_cons, List.take_zero, List.drop_succ_cons, List.drop_zero, List.take_nil, List.drop_nil, List.flatten_cons, List.flatten_nil, tp_n, tp_b, tp_i, tp_s, tp_t, tp_l, tp_d, tp_k, tp_c, tp_r0, tp_r1, ix_l, ix_t, ix_k, ix_d, ix_di, at0, at1, at2, at3, at4, at5, at6, at7, atm1, atm2, atm3, b_add, b_sub, b_mul, b_div, b_mod, b_pow, b_addT, b_addL, b_mulL, c_lt, c_le, c_gt, c_ge, c_eq, c_ne, c_eqs, c_nes, c_is, c_isnt, n_n, n_t, n_i, n_l, bl_b, int_i, f_len, f_lenT, f_min, f_max, f_abs, f_intB, f_int, f_tup, f_tupT, f_lst, f_lstT, f_sum, r_l0, r_l1, ints_map, c_neNil, c_ne00, sz0, pt0, pt1, pt2, if_true, if_false, ite_true, ite_false, if_false_right, if_false_left, decide_eq_true_eq, Bool.not_eq_true', Bool.not_true, Bool.not_false, decide_eq_false_iff_not, Bool.false_eq_true, reduceCtorEq, true_and, and_true, Int.reduceLT, Int.reduceLE, Int.reducePow, Int.reduceNeg, Int.reduceMul, Int.reduceAdd, Int.reduceSub, Int.reduceToNat, Int.reduceEq, na10, Nat.reducePow, Nat.reduceLT, Nat.reduceLeDiff, Nat.reduceAdd, Nat.reduceSub, true_or, or_true, and_self, lkW, lkH, lkD]
      simp only [SK_nx, Ok_cons]
      simp +decide only [Ok_nil, SK_rt, FK_rt, FK_nx, evS, evE, evP, evEs, evQs, evPs, evO, evC, evI, Ok_bind, Ok_map, Ok_some, Ok_none, Ok_ite, getS, peekS, setS, wipeS, orc, permA, keyOf, List.map_cons, List.map_nil, List.cons_append, List.nil_append, List.append_nil, List.replicate, List.length_cons, List.length_nil, List.getElem?_cons_zero, List.getElem?_cons_succ, List.set_cons_zero, List.set_cons_succ, Option.map_some, Option.bind_some, asgT, asgTs, seqD, Ts.len, starD, List.take_succ_cons, List.take_zero, List.drop_succ_cons, List.drop_zero, List.take_nil, List.drop_nil, List.flatten_cons, List.flatten_nil, tp_n, tp_b, tp_i, tp_s, tp_t, tp_l, tp_d, tp_k, tp_c, tp_r0, tp_r1, ix_l, ix_t, ix_k, ix_d, ix_di, at0, at1, at2, at3, at4, at5, at6, at7, atm1, atm2, atm3, b_add, b_sub, b_mul, b_div, b_mod, b_pow, b_addT, b_addL, b_mulL, c_lt, c_le, c_gt, c_ge, c_eq, c_ne, c_eqs, c_nes, c_is, c_isnt, n_n, n_t, n_i, n_l, bl_b, int_i, f_len, f_lenT, f_min, f_max, f_abs, f_intB, f_int, f_tup, f_tupT, f_lst, f_lstT, f_sum, r_l0, r_l1, ints_map, c_neNil, c_ne00, sz0, pt0, pt1, pt2, if_true, if_false, ite_true, ite_false, if_false_right, if_false_left, decide_eq_true_eq, Bool.not_eq_true', Bool.not_true, Bool.not_false, decide_eq_false_iff_not, Bool.false_eq_true, reduceCtorEq, true_and, and_true, Int.reduceLT, Int.reduceLE, Int.reducePow, Int.reduceNeg, Int.reduceMul, Int.reduceAdd, Int.reduceSub, Int.reduceToNat, Int.reduceEq, na10, Nat.reducePow, Nat.reduceLT, Nat.reduceLeDiff, Nat.reduceAdd, Nat.reduceSub, true_or, or_true, and_self, lkW, lkH, lkD]
      refine Ok_at v0 (by simp only [List.length_cons, List.length_nil]; omega) fun r _ mr => ?_
      simp only [List.mem_cons, List.not_mem_nil, or_false] at mr
      rcases mr with rfl | rfl | rfl | rfl | rfl | rfl | rfl <;> exact q _ _ _ k3
    · simp only [SK_nx, Ok_cons]
      simp +decide only [Ok_nil, SK_rt, FK_rt, FK_nx, evS, evE, evP, evEs, evQs, evPs, evO, evC, evI, Ok_bind, Ok_map, Ok_some, Ok_none, Ok_ite, getS, peekS, setS, wipeS, orc, permA, keyOf, List.map_cons, List.map_nil, List.cons_append, List.nil_append, List.append_nil, List.replicate, List.length_cons, List.length_nil, List.getElem?_cons_zero, List.getElem?_cons_succ, List.set_cons_zero, List.set_cons_succ, Option.map_some, Option.bind_some, asgT, asgTs, seqD, Ts.len, starD, List.take_succ_cons, List.take_zero, List.drop_succ_cons, List.drop_zero, List.take_nil, List.drop_nil, List.flatten_cons, List.flatten_nil, tp_n, tp_b, tp_i, tp_s, tp_t, tp_l, tp_d, tp_k, tp_c, tp_r0, tp_r1, ix_l, ix_t, ix_k, ix_d, ix_di, at0, at1, at2, at3, at4, at5, at6, at7, atm1, atm2, atm3, b_add, b_sub, b_mul, b_div, b_mod, b_pow, b_addT, b_addL, b_mulL, c_lt, c_le, c_gt, c_ge, c_eq, c_ne, c_eqs, c_nes, c_is, c_isnt, n_n, n_t, n_i, n_l, bl_b, int_i, f_len, f_lenT, f_min, f_max, f_abs, f_intB, f_int, f_tup, f_tupT, f_lst, f_lstT, f_sum, r_l0, r_l1, ints_map, c_neNil, c_ne00, sz0, pt0, pt1, pt2, if_true, if_false, ite_true, ite_false, if_false_right, if_false_left, decide_eq_true_eq, Bool.not_eq_true', Bool.not_true, Bool.not_false, decide_eq_false_iff_not, Bool.false_eq_true, reduceCtorEq, true_and, and_true, Int.reduceLT, Int.reduceLE, Int.reducePow, Int.reduceNeg, Int.reduceMul, Int.reduceAdd, Int.reduceSub, Int.reduceToNat, Int.reduceEq, na10, Nat.reducePow, Nat.reduceLT, Nat.reduceLeDiff, Nat.reduceAdd, Nat.reduceSub, true_or, or_true, and_self, lkW, lkH, lkD]
      simp only [SK_nx, Ok_cons]
      simp +decide only [Ok_nil, SK_rt, FK_rt, FK_nx, evS, evE, evP, evEs, evQs, evPs, evO, evC, evI, Ok_bind, Ok_map, Ok_some, Ok_none, Ok_ite, getS, peekS, setS, wipeS, orc, permA, keyOf, List.map_cons, List.map_nil, List.cons_append, List.nil_append, List.append_nil, List.replicate, List.length_cons, List.length_nil, List.getElem?_cons_zero, List.getElem?_cons_succ, List.set_cons_zero, List.set_cons_succ, Option.map_some, Option.bind_some, asgT, asgTs, seqD, Ts.len, starD, List.take_succ_cons, List.take_zero, List.drop_succ_cons, List.drop_zero, List.take_nil, List.drop_nil, List.flatten_cons, List.flatten_nil, tp_n, tp_b, tp_i, tp_s, tp_t, tp_l, tp_d, tp_k, tp_c, tp_r0, tp_r1, ix_l, ix_t, ix_k, ix_d, ix_di, at0, at1, at2, at3, at4, at5, at6, at7, atm1, atm2, atm3, b_add, b_sub, b_mul, b_div, b_mod, b_pow, b_addT, b_addL, b_mulL, c_lt, c_le, c_gt, c_ge, c_eq, c_ne, c_eqs, c_nes, c_is, c_isnt, n_n, n_t, n_i, n_l, bl_b, int_i, f_len, f_lenT, f_min, f_max, f_abs, f_intB, f_int, f_tup, f_tupT, f_lst, f_lstT, f_sum, r_l0, r_l1, ints_map, c_neNil, c_ne00, sz0, pt0, pt1, pt2, if_true, if_false, ite_true, ite_false, if_false_right, if_false_left, decide_eq_true_eq, Bool.not_eq_true', Bool.not_true, Bool.not_false, decide_eq_false_iff_not, Bool.false_eq_true, reduceCtorEq, true_and, and_true, Int.reduceLT, Int.reduceLE, Int.reducePow, Int.reduceNeg, Int.reduceMul, Int.reduceAdd, Int.reduceSub, Int.reduceToNat, Int.reduceEq, na10, Nat.reducePow, Nat.reduceLT, Nat.reduceLeDiff, Nat.reduceAdd, Nat.reduceSub, true_or, or_true, and_self, lkW, lkH, lkD]
      refine draw_ok dr k4 (by omega) (by omega) fun x S2 x0 x1 k2 => ?_
      simp +decide only [Ok_nil, SK_rt, FK_rt, FK_nx, evS, evE, evP, evEs, evQs, evPs, evO, evC, evI, Ok_bind, Ok_map, Ok_some, Ok_none, Ok_ite, getS, peekS, setS, wipeS, orc, permA, keyOf, List.map_cons, List.map_nil, List.cons_append, List.nil_append, List.append_nil, List.replicate, List.length_cons, List.length_nil, List.getElem?_cons_zero, List.getElem?_cons_succ, List.set_cons_zero, List.set_cons_succ, Option.map_some, Option.bind_some, asgT, asgTs, seqD, Ts.len, starD, List.take_succ_cons, List.take_zero, List.drop_succ_cons, List.drop_zero, List.take_nil, List.drop_nil, List.flatten_cons, List.flatten_nil, tp_n, tp_b, tp_i, tp_s, tp_t, tp_l, tp_d, tp_k, tp_c, tp_r0, tp_r1, ix_l, ix_t, ix_k, ix_d, ix_di, at0, at1, at2, at3, at4, at5, at6, at7, atm1, atm2, atm3, b_add, b_sub, b_mul, b_div, b_mod, b_pow, b_addT, b_addL, b_mulL, c_lt, c_le, c_gt, c_ge, c_eq, c_ne, c_eqs, c_nes, c_is, c_isnt, n_n, n_t, n_i, n_l, bl_b, int_i, f_len, f_lenT, f_min, f_max, f_abs, f_intB, f_int, f_tup, f_tupT, f_lst, f_lstT, f_sum, r_l0, r_l1, ints_map, c_neNil, c_ne00, sz0, pt0, pt1, pt2, if_true, if_false, ite_true, ite_false, if_false_right, if_false_left, decide_eq_true_eq, Bool.not_eq_true', Bool.not_true, Bool.not_false, decide_eq_false_iff_not, Bool.false_eq_true, reduceCtorEq, true_and, and_true, Int.reduceLT, Int.reduceLE, Int.reducePow, Int.reduceNeg, Int.reduceMul, Int.reduceAdd, Int.reduceSub, Int.reduceToNat, Int.reduceEq, na10, Nat.reducePow, Nat.reduceLT, Nat.reduceLeDiff, Nat.reduceAdd, Nat.reduceSub, true_or, or_true, and_self, lkW, lkH, lkD]
      refine draw_ok dr k2 (by omega) (by omega) fun y S3 y0 y1 k3 => ?_
      simp +decide only [Ok_nil, SK_rt, FK_rt, FK_nx, evS, evE, evP, evEs, evQs, evPs, evO, evC, evI, Ok_bind, Ok_map, Ok_some, Ok_none, Ok_ite, getS, peekS, setS, wipeS, orc, permA, keyOf, List.map_cons, List.map_nil, List.cons_append, List.nil_append, List.append_nil, List.replicate, List.length_cons, List.length_nil, List.getElem?_cons_zero, List.getElem?_cons_succ, List.set_cons_zero, List.set_cons_succ, Option.map_some, Option.bind_some, asgT, asgTs, seqD, Ts.len, starD, List.take_succ_cons, List.take_zero, List.drop_succ_cons, List.drop_zero, List.take_nil, List.drop_nil, List.flatten_cons, List.flatten_nil, tp_n, tp_b, tp_i, tp_s, tp_t, tp_l, tp_d, tp_k, tp_c, tp_r0, tp_r1, ix_l, ix_t, ix_k, ix_d, ix_di, at0, at1, at2, at3, at4, at5, at6, at7, atm1, atm2, atm3, b_add, b_sub, b_mul, b_div, b_mod, b_pow, b_addT, b_addL, b_mulL, c_lt, c_le, c_gt, c_ge, c_eq, c_ne, c_eqs, c_nes, c_is, c_isnt, n_n, n_t, n_i, n_l, bl_b, int_i, f_len, f_lenT, f_min, f_max, f_abs, f_intB, f_int, f_tup, f_tupT, f_lst, f_lstT, f_sum, r_l0, r_l1, ints_map, c_neNil, c_ne00, sz0, pt0, pt1, pt2, if_true, if_false, ite_true, ite_false, if_false_right, if_false_left, decide_eq_true_eq, Bool.not_eq_true', Bool.not_true, Bool.not_false, decide_eq_false_iff_not, Bool.false_eq_true, reduceCtorEq, true_and, and_true, Int.reduceLT, Int.reduceLE, Int.reducePow, Int.reduceNeg, Int.reduceMul, Int.reduceAdd, Int.reduceSub, Int.reduceToNat, Int.reduceEq, na10, Nat.reducePow, Nat.reduceLT, Nat.reduceLeDiff, Nat.reduceAdd, Nat.reduceSub, true_or, or_true, and_self, lkW, lkH, lkD]
      simp only [SK_nx, Ok_cons]
      simp +decide only [Ok_nil, SK_rt, FK_rt, FK_nx, evS, evE, evP, evEs, evQs, evPs, evO, evC, evI, Ok_bind, Ok_map, Ok_some, Ok_none, Ok_ite, getS, peekS, setS, wipeS, orc, permA, keyOf, List.map_cons, List.map_nil, List.cons_append, List.nil_append, List.append_nil, List.replicate, List.length_cons, List.length_nil, List.getElem?_cons_zero, List.getElem?_cons_succ, List.set_cons_zero, List.set_cons_succ, Option.map_some, Option.bind_some, asgT, asgTs, seqD, Ts.len, starD, List.take_succ_cons, List.take_zero, List.drop_succ_cons, List.drop_zero, List.take_nil, List.drop_nil, List.flatten_cons, List.flatten_nil, tp_n, tp_b, tp_i, tp_s, tp_t, tp_l, tp_d, tp_k, tp_c, tp_r0, tp_r1, ix_l, ix_t, ix_k, ix_d, ix_di, at0, at1, at2, at3, at4, at5, at6, at7, atm1, atm2, atm3, b_add, b_sub, b_mul, b_div, b_mod, b_pow, b_addT, b_addL, b_mulL, c_lt, c_le, c_gt, c_ge, c_eq, c_ne, c_eqs, c_nes, c_is, c_isnt, n_n, n_t, n_i, n_l, bl_b, int_i, f_len, f_lenT, f_min, f_max, f_abs, f_intB, f_int, f_tup, f_tupT, f_lst, f_lstT, f_sum, r_l0, r_l1, ints_map, c_neNil, c_ne00, sz0, pt0, pt1, pt2, if_true, if_false, ite_true, ite_false, if_false_right, if_false_left, decide_eq_true_eq, Bool.not_eq_true', Bool.not_true, Bool.not_false, decide_eq_false_iff_not, Bool.false_eq_true, reduceCtorEq, true_and, and_true, Int.reduceLT, Int.reduceLE, Int.reducePow, Int.reduceNeg, Int.reduceMul, Int.reduceAdd, Int.reduceSub, Int.reduceToNat, Int.reduceEq, na10, Nat.reducePow, Nat.reduceLT, Nat.reduceLeDiff, Nat.reduceAdd, Nat.reduceSub, true_or, or_true, and_self, lkW, lkH, lkD]
      simp only [SK_nx, Ok_cons]
      simp +decide only [Ok_nil, SK_rt, FK_rt, FK_nx, evS, evE, evP, evEs, evQs, evPs, evO, evC, evI, Ok_bind, Ok_map, Ok_some, Ok_none, Ok_ite, getS, peekS, setS, wipeS, orc, permA, keyOf, List.map_cons, List.map_nil, List.cons_append, List.nil_append, List.append_nil, List.replicate, List.length_cons, List.length_nil, List.getElem?_cons_zero, List.getElem?_cons_succ, List.set_cons_zero, List.set_cons_succ, Option.map_some, Option.bind_some, asgT, asgTs, seqD, Ts.len, starD, List.take_succ_cons, List.take_zero, List.drop_succ_cons, List.drop_zero, List.take_nil, List.drop_nil, List.flatten_cons, List.flatten_nil, tp_n, tp_b, tp_i, tp_s, tp_t, tp_l, tp_d, tp_k, tp_c, tp_r0, tp_r1, ix_l, ix_t, ix_k, ix_d, ix_di, at0, at1, at2, at3, at4, at5, at6, at7, atm1, atm2, atm3, b_add, b_sub, b_mul, b_div, b_mod, b_pow, b_addT, b_addL, b_mulL, c_lt, c_le, c_gt, c_ge, c_eq, c_ne, c_eqs, c_nes, c_is, c_isnt, n_n, n_t, n_i, n_l, bl_b, int_i, f_len, f_lenT, f_min, f_max, f_abs, f_intB, f_int, f_tup, f_tupT, f_lst, f_lstT, f_sum, r_l0, r_l1, ints_map, c_neNil, c_ne00, sz0, pt0, pt1, pt2, if_true, if_false, ite_true, ite_false, if_false_right, if_false_left, decide_eq_true_eq, Bool.not_eq_true', Bool.not_true, Bool.not_false, decide_eq_false_iff_not, Bool.false_eq_true, reduceCtorEq, true_and, and_true, Int.reduceLT, Int.reduceLE, Int.reducePow, Int.reduceNeg, Int.reduceMul, Int.reduceAdd, Int.reduceSub, Int.reduceToNat, Int.reduceEq, na10, Nat.reducePow, Nat.reduceLT, Nat.reduceLeDiff, Nat.reduceAdd, Nat.reduceSub, true_or, or_true, and_self, lkW, lkH, lkD]
      refine Ok_at v0 (by simp only [List.length_cons, List.length_nil]; omega) fun r _ mr => ?_
      simp only [List.mem_cons, List.not_mem_nil, or_false] at mr
      rcases mr with rfl | rfl | rfl | rfl | rfl | rfl | rfl <;> exact q _ _ _ k3
end
end K06
set_option Elab.async false
set_option linter.all false
set_option maxRecDepth 100000
namespace K06
open PySem L2 Wf
section
variable {n : Nat} {R S : Sto} {Q : D × Sto → Prop} {t : Tk} {w h d s x y u : Int} {p : D}
theorem rep4 {a b c e : Int} (ha : 0 ≤ a ∧ a < 100) (hb : 0 ≤ b ∧ b < 100) (hc : 0 ≤ c ∧ c < 100) (he : 0 ≤ e ∧ e < 100) : semBi .repr [.lst [.int a, .int b, .int c, .int e]] = some (.str (shD (.lst [.int a, .int b, .int c, .int e]))) :=
  f_repr (Rp.lst (k := 0) (RpS.cons (Rp.int (by omega)) (RpS.cons (Rp.int (by omega)) (RpS.cons (Rp.int (by omega)) (RpS.cons (Rp.int (by omega)) RpS.nil))))) (by decide) (by decide)
theorem stepF_le (ht : TOk w h t) (s0 : 0 ≤ s) (s1 : s ≤ lastF t) : 0 ≤ stepF t s x y u ∧ stepF t s x y u ≤ lastF t := by
  have := ht.hrs
  cases t <;> simp only [stepF, lastF] at * <;> first | exact ⟨s0, s1⟩ | (split <;> first | exact ⟨s0, s1⟩ | (split <;> omega))
theorem last_le (ht : TOk w h t) : 0 ≤ lastF t ∧ lastF t ≤ 9 := by
  have := ht.hrs
  cases t <;> simp only [lastF] at * <;> omega
theorem load_le (ht : TOk w h t) : 0 ≤ loadF t s ∧ loadF t s ≤ 9 := by
  have := ht.hrs
  cases t <;> simp only [loadF] at * <;> first | omega | (split <;> omega)
theorem right_ok (ht : TOk w h t) (s0 : 0 ≤ s) (s1 : s ≤ lastF t) (q : Q (.bl true, S)) : Ok (callN prg (n + 3) 16 [t.t, .int s, .int x, .int y, .int u] S) Q := by
  refine Ok_call (f := ⟨5, 8, b16⟩) rfl rfl ?_
  unfold b16
  have sl := stepF_le (x := x) (y := y) (u := u) ht s0 s1
  have ll := last_le ht
  have dl := load_le (s := s) ht
  simp only [Ok_cons]
  simp +decide only [Ok_nil, SK_rt, FK_rt, FK_nx, evS, evE, evP, evEs, evQs, evPs, evO, evC, evI, Ok_bind, Ok_map, Ok_some, Ok_none, Ok_ite, getS, peekS, setS, wipeS, orc, permA, keyOf, List.map_cons, List.map_nil, List.cons_append, List.nil_append, List.append_nil, List.replicate, List.length_cons, List.length_nil, List.getElem?_cons_zero, List.getElem?_cons_succ, List.set_cons_zero, List.set_cons_succ, Option.map_some, Option.bind_some, asgT, asgTs, seqD, Ts.len, starD, List.take_succ_cons, List.take_zero, List.drop_succ_cons, List.drop_zero, List.take_nil, List.drop_nil, List.flatten_cons, List.flatten_nil, tp_n, tp_b, tp_i, tp_s, tp_t, tp_l, tp_d, tp_k, tp_c, tp_r0, tp_r1, ix_l, ix_t, ix_k, ix_d, ix_di, at0, at1, at2, at3, at4, at5, at6, at7, atm1, atm2, atm3, b_add, b_sub, b_mul, b_div, b_mod, b_pow, b_addT, b_addL, b_mulL, c_lt, c_le, c_gt, c_ge, c_eq, c_ne, c_eqs, c_nes, c_is, c_isnt, n_n, n_t, n_i, n_l, bl_b, int_i, f_len, f_lenT, f_min, f_max, f_abs, f_intB, f_int, f_tup, f_tupT, f_lst, f_lstT, f_sum, r_l0, r_l1, ints_map, c_neNil, c_ne00, sz0, pt0, pt1, pt2, if_true, if_false, ite_true, ite_false, if_false_right, if_false_left, decide_eq_true_eq, Bool.not_eq_true', Bool.not_true, Bool.not_false, decide_eq_false_iff_not, Bool.false_eq_true, reduceCtorEq, true_and, and_true, Int.reduceLT, Int.reduceLE, Int.reducePow, Int.reduceNeg, Int.reduceMul, Int.reduceAdd, Int.reduceSub, Int.reduceToNat, Int.reduceEq, na10, Nat.reducePow, Nat.reduceLT, Nat.reduceLeDiff, Nat.reduceAdd, Nat.reduceSub, true_or, or_true, and_self]
  refine becomes_ok ?_
  simp +decide only [Ok_nil, SK_rt, FK_rt, FK_nx, evS, evE, evP, evEs, evQs, evPs, evO, evC, evI, Ok_bind, Ok_map, Ok_some, Ok_none, Ok_ite, getS, peekS, setS, wipeS, orc, permA, keyOf, List.map_cons, List.map_nil, List.cons_append, List.nil_append, List.append_nil, List.replicate, List.length_cons, List.length_nil, List.getElem?_cons_zero, List.getElem?_cons_succ, List.set_cons_zero, List.set_cons_succ, Option.map_some, Option.bind_some, asgT, asgTs, seqD, Ts.len, starD, List.take_succ_cons, List.take_zero, List.drop_succ_cons, List.drop_zero, List.take_nil, List.drop_nil, List.flatten_cons, List.flatten_nil, tp_n, tp_b, tp_i, tp_s, tp_t, tp_l, tp_d, tp_k, tp_c, tp_r0, tp_r1, ix_l, ix_t, ix_k, ix_d, ix_di, at0, at1, at2, at3, at4, at5, at6, at7, atm1, atm2, atm3, b_add, b_sub, b_mul, b_div, b_mod, b_pow, b_addT, b_addL, b_mulL, c_lt, c_le, c_gt, c_ge, c_eq, c_ne, c_eqs, c_nes, c_is, c_isnt, n_n, n_t, n_i, n_l, bl_b, int_i, f_len, f_lenT, f_min, f_max, f_abs, f_intB, f_int, f_tup, f_tupT, f_lst, f_lstT, f_sum, r_l0, r_l1, ints_map, c_neNil, c_ne00, sz0, pt0, pt1, pt2, if_true, if_false, ite_true, ite_false, if_false_right, if_false_left, decide_eq_true_eq, Bool.not_eq_true', Bool.not_true, Bool.not_false, decide_eq_false_iff_not, Bool.false_eq_true, reduceCtorEq, true_and, and_true, Int.reduceLT, Int.reduceLE, Int.reducePow, Int.reduceNeg, Int.reduceMul, Int.reduceAdd, Int.reduceSub, Int.reduceToNat, Int.reduceEq, na10, Nat.reducePow, Nat.reduceLT, Nat.reduceLeDiff, Nat.reduceAdd, Nat.reduceSub, true_or, or_true, and_self]
  simp only [SK_nx, Ok_cons]
  simp +decide only [Ok_nil, SK_rt, FK_rt, FK_nx, evS, evE, evP, evEs, evQs, evPs, evO, evC, evI, Ok_bind, Ok_map, Ok_some, Ok_none, Ok_ite, getS, peekS, setS, wipeS, orc, permA, keyOf, List.map_cons, List.map_nil, List.cons_append, List.nil_append, List.append_nil, List.replicate, List.length_cons, List.length_nil, List.getElem?_cons_zero, List.getElem?_cons_succ, List.set_cons_zero, List.set_cons_succ, Option.map_some, Option.bind_some, asgT, asgTs, seqD, Ts.len, starD, List.take_succ_cons, List.take_zero, List.drop_succ_cons, List.drop_zero, List.take_nil, List.drop_nil, List.flatten_cons, List.flatten_nil, tp_n, tp_b, tp_i, tp_s, tp_t, tp_l, tp_d, tp_k, tp_c, tp_r0, tp_r1, ix_l, ix_t, ix_k, ix_d, ix_di, at0, at1, at2, at3, at4, at5, at6, at7, atm1, atm2, atm3, b_add, b_sub, b_mul, b_div, b_mod, b_pow, b_addT, b_addL, b_mulL, c_lt, c_le, c_gt, c_ge, c_eq, c_ne, c_eqs, c_nes, c_is, c_isnt, n_n, n_t, n_i, n_l, bl_b, int_i, f_len, f_lenT, f_min, f_max, f_abs, f_intB, f_int, f_tup, f_tupT, f_lst, f_lstT, f_sum, r_l0, r_l1, ints_map, c_neNil, c_ne00, sz0, pt0, pt1, pt2, if_true, if_false, ite_true, ite_false, if_false_right, if_false_left, decide_eq_true_eq, Bool.not_eq_true', Bool.not_true, Bool.not_false, decide_eq_false_iff_not, Bool.false_eq_true, reduceCtorEq, true_and, and_true, Int.reduceLT, Int.reduceLE, Int.reducePow, Int.reduceNeg, Int.reduceMul, Int.reduceAdd, Int.reduceSub, Int.reduceToNat, Int.reduceEq, na10, Nat.reducePow, Nat.reduceLT, Nat.reduceLeDiff, Nat.reduceAdd, Nat.reduceSub, true_or, or_true, and_self]
  refine step_ok ?_
  simp +decide only [Ok_nil, SK_rt, FK_rt, FK_nx, evS, evE, evP, evEs, evQs, evPs, evO, evC, evI, Ok_bind, Ok_map, Ok_some, Ok_none, Ok_ite, getS, peekS, setS, wipeS, orc, permA, keyOf, List.map_cons, List.map_nil, List.cons_append, List.nil_append, List.append_nil, List.replicate, List.length_cons, List.length_nil, List.getElem?_cons_zero, List.getElem?_cons_succ, List.set_cons_zero, List.set_cons_succ, Option.map_some, Option.bind_some, asgT, asgTs, seqD, Ts.len, starD, List.take_succ_cons, List.take_zero, List.drop_succ_cons, List.drop_zero, List.take_nil, List.drop_nil, List.flatten_cons, List.flatten_nil, tp_n, tp_b, tp_i, tp_s, tp_t, tp_l, tp_d, tp_k, tp_c, tp_r0, tp_r1, ix_l, ix_t, ix_k, ix_d, ix_di, at0, at1, at2, at3, at4, at5, at6, at7, atm1, atm2, atm3, b_add, b_sub, b_mul, b_div, b_mod, b_pow, b_addT, b_addL, b_mulL, c_lt, c_le, c_gt, c_ge, c_eq, c_ne, c_eqs, c_nes, c_is, c_isnt, n_n, n_t, n_i, n_l, bl_b, int_i, f_len, f_lenT, f_min, f_max, f_abs, f_intB, f_int, f_tup, f_tupT, f_lst, f_lstT, f_sum, r_l0, r_l1, ints_map, c_neNil, c_ne00, sz0, pt0, pt1, pt2, if_true, if_false, ite_true, ite_false, if_false_right, if_false_left, decide_eq_true_eq, Bool.not_eq_true', Bool.not_true, Bool.not_false, decide_eq_false_iff_not, Bool.false_eq_true, reduceCtorEq, true_and, and_true, Int.reduceLT, Int.reduceLE, Int.reducePow, Int.reduceNeg, Int.reduceMul, Int.reduceAdd, Int.reduceSub, Int.reduceToNat, Int.reduceEq, na10, Nat.reducePow, Nat.reduceLT, Nat.reduceLeDiff, Nat.reduceAdd, Nat.reduceSub, true_or, or_true, and_self]
  refine step_ok ?_
  simp +decide only [Ok_nil, SK_rt, FK_rt, FK_nx, evS, evE, evP, evEs, evQs, evPs, evO, evC, evI, Ok_bind, Ok_map, Ok_some, Ok_none, Ok_ite, getS, peekS, setS, wipeS, orc, permA, keyOf, List.map_cons, List.map_nil, List.cons_append, List.nil_append, List.append_nil, List.replicate, List.length_cons, List.length_nil, List.getElem?_cons_zero, List.getElem?_cons_succ, List.set_cons_zero, List.set_cons_succ, Option.map_some, Option.bind_some, asgT, asgTs, seqD, Ts.len, starD, List.take_succ_cons, List.take_zero, List.drop_succ_cons, List.drop_zero, List.take_nil, List.drop_nil, List.flatten_cons, List.flatten_nil, tp_n, tp_b, tp_i, tp_s, tp_t, tp_l, tp_d, tp_k, tp_c, tp_r0, tp_r1, ix_l, ix_t, ix_k, ix_d, ix_di, at0, at1, at2, at3, at4, at5, at6, at7, atm1, atm2, atm3, b_add, b_sub, b_mul, b_div, b_mod, b_pow, b_addT, b_addL, b_mulL, c_lt, c_le, c_gt, c_ge, c_eq, c_ne, c_eqs, c_nes, c_is, c_isnt, n_n, n_t, n_i, n_l, bl_b, int_i, f_len, f_lenT, f_min, f_max, f_abs, f_intB, f_int, f_tup, f_tupT, f_lst, f_lstT, f_sum, r_l0, r_l1, ints_map, c_neNil, c_ne00, sz0, pt0, pt1, pt2, if_true, if_false, ite_true, ite_false, if_false_right, if_false_left, decide_eq_true_eq, Bool.not_eq_true', Bool.not_true, Bool.not_false, decide_eq_false_iff_not, Bool.false_eq_true, reduceCtorEq, true_and, and_true, Int.reduceLT, Int.reduceLE, Int.reducePow, Int.reduceNeg, Int.reduceMul, Int.reduceAdd, Int.reduceSub, Int.reduceToNat, Int.reduceEq, na10, Nat.reducePow, Nat.reduceLT, Nat.reduceLeDiff, Nat.reduceAdd, Nat.reduceSub, true_or, or_true, and_self]
  have ld : ∀ K : D × Sto → Prop, K (.int (loadF t s), S) → Ok (evE (orc prg (n + 2)) (.ite (.and_ (.cmp .IsNot (.e (.v 0)) (.e (.k D.non))) (.and_ (.cmp .Eq (.e (.sub (.e (.v 0)) (.k (D.int 0)))) (.e (.k (D.str "bring")))) (.cmp .Eq (.e (.v 1)) (.e (.k (D.int 1)))))) (.sub (.e (.v 0)) (.k (D.int 3))) (.k (D.int 0)))
      [.fz t.t, .fz (.int s), .fz (.int x), .fz (.int y), .fz (.int u), .fz (.int (stepF t s x y u)), .fz (.lst [.int (stepF t s x y u), .int (stepF t s x y u)]), .un] S) K := by
    intro K hK
    cases t with
    | bring b o m f l =>
      unfold Tk.t
      simp +decide only [Ok_nil, SK_rt, FK_rt, FK_nx, evS, evE, evP, evEs, evQs, evPs, evO, evC, evI, Ok_bind, Ok_map, Ok_some, Ok_none, Ok_ite, getS, peekS, setS, wipeS, orc, permA, keyOf, List.map_cons, List.map_nil, List.cons_append, List.nil_append, List.append_nil, List.replicate, List.length_cons, List.length_nil, List.getElem?_cons_zero, List.getElem?_cons_succ, List.set_cons_zero, List.set_cons_succ, Option.map_some, Option.bind_some, asgT, asgTs, seqD, Ts.len, starD, List.take_succ_cons, List.take_zero, List.drop_succ_cons, List.drop_zero, List.take_nil, List.drop_nil, List.flatten_cons, List.flatten_nil, tp_n, tp_b, tp_i, tp_s, tp_t, tp_l, tp_d, tp_k, tp_c, tp_r0, tp_r1, ix_l, ix_t, ix_k, ix_d, ix_di, at0, at1, at2, at3, at4, at5, at6, at7, atm1, atm2, atm3, b_add, b_sub, b_mul, b_div, b_mod, b_pow, b_addT, b_addL, b_mulL, c_lt, c_le, c_gt, c_ge, c_eq, c_ne, c_eqs, c_nes, c_is, c_isnt, n_n, n_t, n_i, n_l, bl_b, int_i, f_len, f_lenT, f_min, f_max, f_abs, f_intB, f_int, f_tup, f_tupT, f_lst, f_lstT, f_sum, r_l0, r_l1, ints_map, c_neNil, c_ne00, sz0, pt0, pt1, pt2, if_true, if_false, ite_true, ite_false, if_false_right, if_false_left, decide_eq_true_eq, Bool.not_eq_true', Bool.not_true, Bool.not_false, decide_eq_false_iff_not, Bool.false_eq_true, reduceCtorEq, true_and, and_true, Int.reduceLT, Int.reduceLE, Int.reducePow, Int.reduceNeg, Int.reduceMul, Int.reduceAdd, Int.reduceSub, Int.reduceToNat, Int.reduceEq, na10, Nat.reducePow, Nat.reduceLT, Nat.reduceLeDiff, Nat.reduceAdd, Nat.reduceSub, true_or, or_true, and_self]
      by_cases hs : s = 1 <;> simp only [loadF, hs, if_true, if_false] at hK ⊢ <;> exact hK
    | _ => unfold Tk.t; simp +decide only [Ok_nil, SK_rt, FK_rt, FK_nx, evS, evE, evP, evEs, evQs, evPs, evO, evC, evI, Ok_bind, Ok_map, Ok_some, Ok_none, Ok_ite, getS, peekS, setS, wipeS, orc, permA, keyOf, List.map_cons, List.map_nil, List.cons_append, List.nil_append, List.append_nil, List.replicate, List.length_cons, List.length_nil, List.getElem?_cons_zero, List.getElem?_cons_succ, List.set_cons_zero, List.set_cons_succ, Option.map_some, Option.bind_some, asgT, asgTs, seqD, Ts.len, starD, List.take_succ_cons, List.take_zero, List.drop_succ_cons, List.drop_zero, List.take_nil, List.drop_nil, List.flatten_cons, List.flatten_nil, tp_n, tp_b, tp_i, tp_s, tp_t, tp_l, tp_d, tp_k, tp_c, tp_r0, tp_r1, ix_l, ix_t, ix_k, ix_d, ix_di, at0, at1, at2, at3, at4, at5, at6, at7, atm1, atm2, atm3, b_add, b_sub, b_mul, b_div, b_mod, b_pow, b_addT, b_addL, b_mulL, c_lt, c_le, c_gt, c_ge, c_eq, c_ne, c_eqs, c_nes, c_is, c_isnt, n_n, n_t, n_i, n_l, bl_b, int_i, f_len, f_lenT, f_min, f_max, f_abs, f_intB, f_int, f_tup, f_tupT, f_lst, f_lstT, f_sum, r_l0, r_l1, ints_map, c_neNil, c_ne00, sz0, pt0, pt1, pt2, if_true, if_false, ite_true, ite_false, if_false_right, if_false_left, decide_eq_true_eq, Bool.not_eq_true', Bool.not_true, Bool.not_false, decide_eq_false_iff_not, Bool.false_eq_true, reduceCtorEq, true_and, and_true, Int.reduceLT, Int.reduceLE, Int.reducePow, Int.reduceNeg, Int.reduceMul, Int.reduceAdd, Int.reduceSub, Int.reduceToNat, Int.reduceEq, na10, Nat.reducePow, Nat.reduceLT, Nat.reduceLeDiff, Nat.reduceAdd, Nat.reduceSub, true_or, or_true, and_self]; exact hK
  simp only [SK_nx, Ok_cons, evS, Ok_bind]
  refine ld _ ?_
  simp +decide only [Ok_nil, SK_rt, FK_rt, FK_nx, evS, evE, evP, evEs, evQs, evPs, evO, evC, evI, Ok_bind, Ok_map, Ok_some, Ok_none, Ok_ite, getS, peekS, setS, wipeS, orc, permA, keyOf, List.map_cons, List.map_nil, List.cons_append, List.nil_append, List.append_nil, List.replicate, List.length_cons, List.length_nil, List.getElem?_cons_zero, List.getElem?_cons_succ, List.set_cons_zero, List.set_cons_succ, Option.map_some, Option.bind_some, asgT, asgTs, seqD, Ts.len, starD, List.take_succ_cons, List.take_zero, List.drop_succ_cons, List.drop_zero, List.take_nil, List.drop_nil, List.flatten_cons, List.flatten_nil, tp_n, tp_b, tp_i, tp_s, tp_t, tp_l, tp_d, tp_k, tp_c, tp_r0, tp_r1, ix_l, ix_t, ix_k, ix_d, ix_di, at0, at1, at2, at3, at4, at5, at6, at7, atm1, atm2, atm3, b_add, b_sub, b_mul, b_div, b_mod, b_pow, b_addT, b_addL, b_mulL, c_lt, c_le, c_gt, c_ge, c_eq, c_ne, c_eqs, c_nes, c_is, c_isnt, n_n, n_t, n_i, n_l, bl_b, int_i, f_len, f_lenT, f_min, f_max, f_abs, f_intB, f_int, f_tup, f_tupT, f_lst, f_lstT, f_sum, r_l0, r_l1, ints_map, c_neNil, c_ne00, sz0, pt0, pt1, pt2, if_true, if_false, ite_true, ite_false, if_false_right, if_false_left, decide_eq_true_eq, Bool.not_eq_true', Bool.not_true, Bool.not_false, decide_eq_false_iff_not, Bool.false_eq_true, reduceCtorEq, true_and, and_true, Int.reduceLT, Int.reduceLE, Int.reducePow, Int.reduceNeg, Int.reduceMul, Int.reduceAdd, Int.reduceSub, Int.reduceToNat, Int.reduceEq, na10, Nat.reducePow, Nat.reduceLT, Nat.reduceLeDiff, Nat.reduceAdd, Nat.reduceSub, true_or, or_true, and_self]
  simp only [SK_nx, Ok_cons]
  simp +decide only [Ok_nil, SK_rt, FK_rt, FK_nx, evS, evE, evP, evEs, evQs, evPs, evO, evC, evI, Ok_bind, Ok_map, Ok_some, Ok_none, Ok_ite, getS, peekS, setS, wipeS, orc, permA, keyOf, List.map_cons, List.map_nil, List.cons_append, List.nil_append, List.append_nil, List.replicate, List.length_cons, List.length_nil, List.getElem?_cons_zero, List.getElem?_cons_succ, List.set_cons_zero, List.set_cons_succ, Option.map_some, Option.bind_some, asgT, asgTs, seqD, Ts.len, starD, List.take_succ_cons, List.take_zero, List.drop_succ_cons, List.drop_zero, List.take_nil, List.drop_nil, List.flatten_cons, List.flatten_nil, tp_n, tp_b, tp_i, tp_s, tp_t, tp_l, tp_d, tp_k, tp_c, tp_r0, tp_r1, ix_l, ix_t, ix_k, ix_d, ix_di, at0, at1, at2, at3, at4, at5, at6, at7, atm1, atm2, atm3, b_add, b_sub, b_mul, b_div, b_mod, b_pow, b_addT, b_addL, b_mulL, c_lt, c_le, c_gt, c_ge, c_eq, c_ne, c_eqs, c_nes, c_is, c_isnt, n_n, n_t, n_i, n_l, bl_b, int_i, f_len, f_lenT, f_min, f_max, f_abs, f_intB, f_int, f_tup, f_tupT, f_lst, f_lstT, f_sum, r_l0, r_l1, ints_map, c_neNil, c_ne00, sz0, pt0, pt1, pt2, if_true, if_false, ite_true, ite_false, if_false_right, if_false_left, decide_eq_true_eq, Bool.not_eq_true', Bool.not_true, Bool.not_false, decide_eq_false_iff_not, Bool.false_eq_true, reduceCtorEq, true_and, and_true, Int.reduceLT, Int.reduceLE, Int.reducePow, Int.reduceNeg, Int.reduceMul, Int.reduceAdd, Int.reduceSub, Int.reduceToNat, Int.reduceEq, na10, Nat.reducePow, Nat.reduceLT, Nat.reduceLeDiff, Nat.reduceAdd, Nat.reduceSub, true_or, or_true, and_self]
  refine load_ok ?_
  simp +decide only [Ok_nil, SK_rt, FK_rt, FK_nx, evS, evE, evP, evEs, evQs, evPs, evO, evC, evI, Ok_bind, Ok_map, Ok_some, Ok_none, Ok_ite, getS, peekS, setS, wipeS, orc, permA, keyOf, List.map_cons, List.map_nil, List.cons_append, List.nil_append, List.append_nil, List.replicate, List.length_cons, List.length_nil, List.getElem?_cons_zero, List.getElem?_cons_succ, List.set_cons_zero, List.set_cons_succ, Option.map_some, Option.bind_some, asgT, asgTs, seqD, Ts.len, starD, List.take_succ_cons, List.take_zero, List.drop_succ_cons, List.drop_zero, List.take_nil, List.drop_nil, List.flatten_cons, List.flatten_nil, tp_n, tp_b, tp_i, tp_s, tp_t, tp_l, tp_d, tp_k, tp_c, tp_r0, tp_r1, ix_l, ix_t, ix_k, ix_d, ix_di, at0, at1, at2, at3, at4, at5, at6, at7, atm1, atm2, atm3, b_add, b_sub, b_mul, b_div, b_mod, b_pow, b_addT, b_addL, b_mulL, c_lt, c_le, c_gt, c_ge, c_eq, c_ne, c_eqs, c_nes, c_is, c_isnt, n_n, n_t, n_i, n_l, bl_b, int_i, f_len, f_lenT, f_min, f_max, f_abs, f_intB, f_int, f_tup, f_tupT, f_lst, f_lstT, f_sum, r_l0, r_l1, ints_map, c_neNil, c_ne00, sz0, pt0, pt1, pt2, if_true, if_false, ite_true, ite_false, if_false_right, if_false_left, decide_eq_true_eq, Bool.not_eq_true', Bool.not_true, Bool.not_false, decide_eq_false_iff_not, Bool.false_eq_true, reduceCtorEq, true_and, and_true, Int.reduceLT, Int.reduceLE, Int.reducePow, Int.reduceNeg, Int.reduceMul, Int.reduceAdd, Int.reduceSub, Int.reduceToNat, Int.reduceEq, na10, Nat.reducePow, Nat.reduceLT, Nat.reduceLeDiff, Nat.reduceAdd, Nat.reduceSub, true_or, or_true, and_self]
  refine load_ok ?_
  simp +decide only [Ok_nil, SK_rt, FK_rt, FK_nx, evS, evE, evP, evEs, evQs, evPs, evO, evC, evI, Ok_bind, Ok_map, Ok_some, Ok_none, Ok_ite, getS, peekS, setS, wipeS, orc, permA, keyOf, List.map_cons, List.map_nil, List.cons_append, List.nil_append, List.append_nil, List.replicate, List.length_cons, List.length_nil, List.getElem?_cons_zero, List.getElem?_cons_succ, List.set_cons_zero, List.set_cons_succ, Option.map_some, Option.bind_some, asgT, asgTs, seqD, Ts.len, starD, List.take_succ_cons, List.take_zero, List.drop_succ_cons, List.drop_zero, List.take_nil, List.drop_nil, List.flatten_cons, List.flatten_nil, tp_n, tp_b, tp_i, tp_s, tp_t, tp_l, tp_d, tp_k, tp_c, tp_r0, tp_r1, ix_l, ix_t, ix_k, ix_d, ix_di, at0, at1, at2, at3, at4, at5, at6, at7, atm1, atm2, atm3, b_add, b_sub, b_mul, b_div, b_mod, b_pow, b_addT, b_addL, b_mulL, c_lt, c_le, c_gt, c_ge, c_eq, c_ne, c_eqs, c_nes, c_is, c_isnt, n_n, n_t, n_i, n_l, bl_b, int_i, f_len, f_lenT, f_min, f_max, f_abs, f_intB, f_int, f_tup, f_tupT, f_lst, f_lstT, f_sum, r_l0, r_l1, ints_map, c_neNil, c_ne00, sz0, pt0, pt1, pt2, if_true, if_false, ite_true, ite_false, if_false_right, if_false_left, decide_eq_true_eq, Bool.not_eq_true', Bool.not_true, Bool.not_false, decide_eq_false_iff_not, Bool.false_eq_true, reduceCtorEq, true_and, and_true, Int.reduceLT, Int.reduceLE, Int.reducePow, Int.reduceNeg, Int.reduceMul, Int.reduceAdd, Int.reduceSub, Int.reduceToNat, Int.reduceEq, na10, Nat.reducePow, Nat.reduceLT, Nat.reduceLeDiff, Nat.reduceAdd, Nat.reduceSub, true_or, or_true, and_self, rep4 (a := stepF t s x y u) (b := stepF t s x y u) (c := loadF t s) (e := loadF t s) (by omega) (by omega) (by omega) (by omega)]
  trace_state
  exact q
end
end K06
set_option Elab.async false
set_option linter.all false
set_option maxRecDepth 100000
namespace K06
open PySem L2 Wf
section
variable {n : Nat} {R S : Sto} {Q : D × Sto → Prop} {t : Tk} {w h d s x y u : Int} {p : D}
theorem repB {b : Bx} (w1 : w ≤ 12) (h1 : h ≤ 12) (hb : BOk w h b) : Rp b.t 63 3 := by
  obtain ⟨a0, b0, ac, bd, c1, d1⟩ := hb
  exact Rp.wide (Rp.tup (k := 0) (RpS.cons (Rp.int (by omega)) (RpS.cons (Rp.int (by omega)) (RpS.cons (Rp.int (by omega)) (RpS.cons (Rp.int (by omega)) RpS.nil))))) (by decide) (by decide)
theorem repT (w1 : w ≤ 12) (h1 : h ≤ 12) (ht : TOk w h t) : semBi .repr [t.t] = some (.str (shD t.t)) := by
  have hh := ht.hrs
  have hb := ht.box
  cases t with
  | no => exact f_repr (Rp.non (k := 0)) (by decide) (by decide)
  | look b f l => exact f_repr (Rp.tup (k := 3) (RpS.cons (Rp.str (by decide)) (RpS.cons (repB w1 h1 (hb b (by simp))) (RpS.cons (Rp.int (by omega)) (RpS.cons (Rp.int (by omega)) RpS.nil))))) (by decide) (by decide)
  | bring b o m f l => exact f_repr (Rp.tup (k := 3) (RpS.cons (Rp.str (by decide)) (RpS.cons (repB w1 h1 (hb b (by simp))) (RpS.cons (repB w1 h1 (hb o (by simp))) (RpS.cons (Rp.int (by omega)) (RpS.cons (Rp.int (by omega)) (RpS.cons (Rp.int (by omega)) RpS.nil))))))) (by decide) (by decide)
  | over b m f l => exact f_repr (Rp.tup (k := 3) (RpS.cons (Rp.str (by decide)) (RpS.cons (repB w1 h1 (hb b (by simp))) (RpS.cons (Rp.int (by omega)) (RpS.cons (Rp.int (by omega)) (RpS.cons (Rp.int (by omega)) RpS.nil)))))) (by decide) (by decide)
theorem rep2 {a b : Int} (ha : 0 ≤ a ∧ a < 100) (hb : 0 ≤ b ∧ b < 100) : semBi .repr [.lst [.int a, .int b]] = some (.str (shD (.lst [.int a, .int b]))) :=
  f_repr (Rp.lst (k := 0) (RpS.cons (Rp.int (by omega)) (RpS.cons (Rp.int (by omega)) RpS.nil))) (by decide) (by decide)
theorem rep1 {a : Int} (ha : 0 ≤ a ∧ a < 100) : semBi .repr [.int a] = some (.str (shD (.int a))) := f_repr (Rp.int (k := 0) (by omega)) (by decide) (by decide)
theorem twice {xs : List D} : (List.replicate 2 xs).flatten = xs ++ xs := by simp [List.replicate]
theorem range_mem {lo hi : Int} {d : D} (hd : d ∈ rangeD lo hi) : ∃ i, d = .int i ∧ lo ≤ i ∧ i < hi := by
  obtain ⟨k, hk, e⟩ := List.mem_map.mp hd
  have := List.mem_range.mp hk
  exact ⟨lo + (k : Int), e.symm, by omega, by omega⟩
theorem range_len {lo hi : Int} : (rangeD lo hi).length = (hi - lo).toNat := by unfold rangeD; simp
theorem topT : top S t.t = t.t := by cases t <;> rfl
theorem law_ok {ns : List Int} : Ok (callN prg 5 17 [.scr ns] []) fun p => p.1 = .bl true := by
  refine Ok_call (f := ⟨1, 11, b17⟩) rfl rfl ?_
  unfold b17
  simp only [Ok_cons]
  simp +decide only [Ok_nil, SK_rt, FK_rt, FK_nx, evS, evE, evP, evEs, evQs, evPs, evO, evC, evI, Ok_bind, Ok_map, Ok_some, Ok_none, Ok_ite, getS, peekS, setS, wipeS, orc, permA, keyOf, List.map_cons, List.map_nil, List.cons_append, List.nil_append, List.append_nil, List.replicate, List.length_cons, List.length_nil, List.getElem?_cons_zero, List.getElem?_cons_succ, List.set_cons_zero, List.set_cons_succ, Option.map_some, Option.bind_some, asgT, asgTs, seqD, Ts.len, starD, List.take_succ_cons, List.take_zero, List.drop_succ_cons, List.drop_zero, List.take_nil, List.drop_nil, List.flatten_cons, List.flatten_nil, tp_n, tp_b, tp_i, tp_s, tp_t, tp_l, tp_d, tp_k, tp_c, tp_r0, tp_r1, ix_l, ix_t, ix_k, ix_d, ix_di, at0, at1, at2, at3, at4, at5, at6, at7, atm1, atm2, atm3, b_add, b_sub, b_mul, b_div, b_mod, b_pow, b_addT, b_addL, b_mulL, c_lt, c_le, c_gt, c_ge, c_eq, c_ne, c_eqs, c_nes, c_is, c_isnt, n_n, n_t, n_i, n_l, bl_b, int_i, f_len, f_lenT, f_min, f_max, f_abs, f_intB, f_int, f_tup, f_tupT, f_lst, f_lstT, f_sum, r_l0, r_l1, ints_map, c_neNil, c_ne00, sz0, pt0, pt1, pt2, if_true, if_false, ite_true, ite_false, if_false_right, if_false_left, decide_eq_true_eq, Bool.not_eq_true', Bool.not_true, Bool.not_false, decide_eq_false_iff_not, Bool.false_eq_true, reduceCtorEq, true_and, and_true, Int.reduceLT, Int.reduceLE, Int.reducePow, Int.reduceNeg, Int.reduceMul, Int.reduceAdd, Int.reduceSub, Int.reduceToNat, Int.reduceEq, na10, Nat.reducePow, Nat.reduceLT, Nat.reduceLeDiff, Nat.reduceAdd, Nat.reduceSub, true_or, or_true, and_self]
  refine deck_ok de fun S1 k1 => ?_
  simp +decide only [Ok_nil, SK_rt, FK_rt, FK_nx, evS, evE, evP, evEs, evQs, evPs, evO, evC, evI, Ok_bind, Ok_map, Ok_some, Ok_none, Ok_ite, getS, peekS, setS, wipeS, orc, permA, keyOf, List.map_cons, List.map_nil, List.cons_append, List.nil_append, List.append_nil, List.replicate, List.length_cons, List.length_nil, List.getElem?_cons_zero, List.getElem?_cons_succ, List.set_cons_zero, List.set_cons_succ, Option.map_some, Option.bind_some, asgT, asgTs, seqD, Ts.len, starD, List.take_succ_cons, List.take_zero, List.drop_succ_cons, List.drop_zero, List.take_nil, List.drop_nil, List.flatten_cons, List.flatten_nil, tp_n, tp_b, tp_i, tp_s, tp_t, tp_l, tp_d, tp_k, tp_c, tp_r0, tp_r1, ix_l, ix_t, ix_k, ix_d, ix_di, at0, at1, at2, at3, at4, at5, at6, at7, atm1, atm2, atm3, b_add, b_sub, b_mul, b_div, b_mod, b_pow, b_addT, b_addL, b_mulL, c_lt, c_le, c_gt, c_ge, c_eq, c_ne, c_eqs, c_nes, c_is, c_isnt, n_n, n_t, n_i, n_l, bl_b, int_i, f_len, f_lenT, f_min, f_max, f_abs, f_intB, f_int, f_tup, f_tupT, f_lst, f_lstT, f_sum, r_l0, r_l1, ints_map, c_neNil, c_ne00, sz0, pt0, pt1, pt2, if_true, if_false, ite_true, ite_false, if_false_right, if_false_left, decide_eq_true_eq, Bool.not_eq_true', Bool.not_true, Bool.not_false, decide_eq_false_iff_not, Bool.false_eq_true, reduceCtorEq, true_and, and_true, Int.reduceLT, Int.reduceLE, Int.reducePow, Int.reduceNeg, Int.reduceMul, Int.reduceAdd, Int.reduceSub, Int.reduceToNat, Int.reduceEq, na10, Nat.reducePow, Nat.reduceLT, Nat.reduceLeDiff, Nat.reduceAdd, Nat.reduceSub, true_or, or_true, and_self]
  simp only [SK_nx, Ok_cons]
  simp +decide only [Ok_nil, SK_rt, FK_rt, FK_nx, evS, evE, evP, evEs, evQs, evPs, evO, evC, evI, Ok_bind, Ok_map, Ok_some, Ok_none, Ok_ite, getS, peekS, setS, wipeS, orc, permA, keyOf, List.map_cons, List.map_nil, List.cons_append, List.nil_append, List.append_nil, List.replicate, List.length_cons, List.length_nil, List.getElem?_cons_zero, List.getElem?_cons_succ, List.set_cons_zero, List.set_cons_succ, Option.map_some, Option.bind_some, asgT, asgTs, seqD, Ts.len, starD, List.take_succ_cons, List.take_zero, List.drop_succ_cons, List.drop_zero, List.take_nil, List.drop_nil, List.flatten_cons, List.flatten_nil, tp_n, tp_b, tp_i, tp_s, tp_t, tp_l, tp_d, tp_k, tp_c, tp_r0, tp_r1, ix_l, ix_t, ix_k, ix_d, ix_di, at0, at1, at2, at3, at4, at5, at6, at7, atm1, atm2, atm3, b_add, b_sub, b_mul, b_div, b_mod, b_pow, b_addT, b_addL, b_mulL, c_lt, c_le, c_gt, c_ge, c_eq, c_ne, c_eqs, c_nes, c_is, c_isnt, n_n, n_t, n_i, n_l, bl_b, int_i, f_len, f_lenT, f_min, f_max, f_abs, f_intB, f_int, f_tup, f_tupT, f_lst, f_lstT, f_sum, r_l0, r_l1, ints_map, c_neNil, c_ne00, sz0, pt0, pt1, pt2, if_true, if_false, ite_true, ite_false, if_false_right, if_false_left, decide_eq_true_eq, Bool.not_eq_true', Bool.not_true, Bool.not_false, decide_eq_false_iff_not, Bool.false_eq_true, reduceCtorEq, true_and, and_true, Int.reduceLT, Int.reduceLE, Int.reducePow, Int.reduceNeg, Int.reduceMul, Int.reduceAdd, Int.reduceSub, Int.reduceToNat, Int.reduceEq, na10, Nat.reducePow, Nat.reduceLT, Nat.reduceLeDiff, Nat.reduceAdd, Nat.reduceSub, true_or, or_true, and_self]
  refine fields_ok k1 fun w h d p S2 w0 w1 h0 h1 d0 d1 k2 => ?_
  simp +decide only [Ok_nil, SK_rt, FK_rt, FK_nx, evS, evE, evP, evEs, evQs, evPs, evO, evC, evI, Ok_bind, Ok_map, Ok_some, Ok_none, Ok_ite, getS, peekS, setS, wipeS, orc, permA, keyOf, List.map_cons, List.map_nil, List.cons_append, List.nil_append, List.append_nil, List.replicate, List.length_cons, List.length_nil, List.getElem?_cons_zero, List.getElem?_cons_succ, List.set_cons_zero, List.set_cons_succ, Option.map_some, Option.bind_some, asgT, asgTs, seqD, Ts.len, starD, List.take_succ_cons, List.take_zero, List.drop_succ_cons, List.drop_zero, List.take_nil, List.drop_nil, List.flatten_cons, List.flatten_nil, tp_n, tp_b, tp_i, tp_s, tp_t, tp_l, tp_d, tp_k, tp_c, tp_r0, tp_r1, ix_l, ix_t, ix_k, ix_d, ix_di, at0, at1, at2, at3, at4, at5, at6, at7, atm1, atm2, atm3, b_add, b_sub, b_mul, b_div, b_mod, b_pow, b_addT, b_addL, b_mulL, c_lt, c_le, c_gt, c_ge, c_eq, c_ne, c_eqs, c_nes, c_is, c_isnt, n_n, n_t, n_i, n_l, bl_b, int_i, f_len, f_lenT, f_min, f_max, f_abs, f_intB, f_int, f_tup, f_tupT, f_lst, f_lstT, f_sum, r_l0, r_l1, ints_map, c_neNil, c_ne00, sz0, pt0, pt1, pt2, if_true, if_false, ite_true, ite_false, if_false_right, if_false_left, decide_eq_true_eq, Bool.not_eq_true', Bool.not_true, Bool.not_false, decide_eq_false_iff_not, Bool.false_eq_true, reduceCtorEq, true_and, and_true, Int.reduceLT, Int.reduceLE, Int.reducePow, Int.reduceNeg, Int.reduceMul, Int.reduceAdd, Int.reduceSub, Int.reduceToNat, Int.reduceEq, na10, Nat.reducePow, Nat.reduceLT, Nat.reduceLeDiff, Nat.reduceAdd, Nat.reduceSub, true_or, or_true, and_self]
  simp only [SK_nx, Ok_cons]
  simp +decide only [Ok_nil, SK_rt, FK_rt, FK_nx, evS, evE, evP, evEs, evQs, evPs, evO, evC, evI, Ok_bind, Ok_map, Ok_some, Ok_none, Ok_ite, getS, peekS, setS, wipeS, orc, permA, keyOf, List.map_cons, List.map_nil, List.cons_append, List.nil_append, List.append_nil, List.replicate, List.length_cons, List.length_nil, List.getElem?_cons_zero, List.getElem?_cons_succ, List.set_cons_zero, List.set_cons_succ, Option.map_some, Option.bind_some, asgT, asgTs, seqD, Ts.len, starD, List.take_succ_cons, List.take_zero, List.drop_succ_cons, List.drop_zero, List.take_nil, List.drop_nil, List.flatten_cons, List.flatten_nil, tp_n, tp_b, tp_i, tp_s, tp_t, tp_l, tp_d, tp_k, tp_c, tp_r0, tp_r1, ix_l, ix_t, ix_k, ix_d, ix_di, at0, at1, at2, at3, at4, at5, at6, at7, atm1, atm2, atm3, b_add, b_sub, b_mul, b_div, b_mod, b_pow, b_addT, b_addL, b_mulL, c_lt, c_le, c_gt, c_ge, c_eq, c_ne, c_eqs, c_nes, c_is, c_isnt, n_n, n_t, n_i, n_l, bl_b, int_i, f_len, f_lenT, f_min, f_max, f_abs, f_intB, f_int, f_tup, f_tupT, f_lst, f_lstT, f_sum, r_l0, r_l1, ints_map, c_neNil, c_ne00, sz0, pt0, pt1, pt2, if_true, if_false, ite_true, ite_false, if_false_right, if_false_left, decide_eq_true_eq, Bool.not_eq_true', Bool.not_true, Bool.not_false, decide_eq_false_iff_not, Bool.false_eq_true, reduceCtorEq, true_and, and_true, Int.reduceLT, Int.reduceLE, Int.reducePow, Int.reduceNeg, Int.reduceMul, Int.reduceAdd, Int.reduceSub, Int.reduceToNat, Int.reduceEq, na10, Nat.reducePow, Nat.reduceLT, Nat.reduceLeDiff, Nat.reduceAdd, Nat.reduceSub, true_or, or_true, and_self]
  refine tasks_ok k2 w0 w1 h0 h1 d0 d1 fun ts S3 ht hl k3 => ?_
  simp +decide only [Ok_nil, SK_rt, FK_rt, FK_nx, evS, evE, evP, evEs, evQs, evPs, evO, evC, evI, Ok_bind, Ok_map, Ok_some, Ok_none, Ok_ite, getS, peekS, setS, wipeS, orc, permA, keyOf, List.map_cons, List.map_nil, List.cons_append, List.nil_append, List.append_nil, List.replicate, List.length_cons, List.length_nil, List.getElem?_cons_zero, List.getElem?_cons_succ, List.set_cons_zero, List.set_cons_succ, Option.map_some, Option.bind_some, asgT, asgTs, seqD, Ts.len, starD, List.take_succ_cons, List.take_zero, List.drop_succ_cons, List.drop_zero, List.take_nil, List.drop_nil, List.flatten_cons, List.flatten_nil, tp_n, tp_b, tp_i, tp_s, tp_t, tp_l, tp_d, tp_k, tp_c, tp_r0, tp_r1, ix_l, ix_t, ix_k, ix_d, ix_di, at0, at1, at2, at3, at4, at5, at6, at7, atm1, atm2, atm3, b_add, b_sub, b_mul, b_div, b_mod, b_pow, b_addT, b_addL, b_mulL, c_lt, c_le, c_gt, c_ge, c_eq, c_ne, c_eqs, c_nes, c_is, c_isnt, n_n, n_t, n_i, n_l, bl_b, int_i, f_len, f_lenT, f_min, f_max, f_abs, f_intB, f_int, f_tup, f_tupT, f_lst, f_lstT, f_sum, r_l0, r_l1, ints_map, c_neNil, c_ne00, sz0, pt0, pt1, pt2, if_true, if_false, ite_true, ite_false, if_false_right, if_false_left, decide_eq_true_eq, Bool.not_eq_true', Bool.not_true, Bool.not_false, decide_eq_false_iff_not, Bool.false_eq_true, reduceCtorEq, true_and, and_true, Int.reduceLT, Int.reduceLE, Int.reducePow, Int.reduceNeg, Int.reduceMul, Int.reduceAdd, Int.reduceSub, Int.reduceToNat, Int.reduceEq, na10, Nat.reducePow, Nat.reduceLT, Nat.reduceLeDiff, Nat.reduceAdd, Nat.reduceSub, true_or, or_true, and_self]
  refine ⟨by rw [List.length_map]; unfold sizeLine; omega, ?_⟩
  refine Ok_fr (fun rest env S => Dk [] S ∧ ∃ (us : List Tk) (a3 a4 a5 a6 a7 a8 a9 a10 : Sl), (∀ t ∈ us, TOk w h t) ∧ rest = us.map Tk.t ∧ env = [.fz (.scr ns), .fz (.ref 1), .fz (someD w h d p), a3, a4, a5, a6, a7, a8, a9, a10])
    ⟨k3, ts ++ [.no], _, _, _, _, _, _, _, _, fun t m => by
      rcases List.mem_append.mp m with m | m
      · exact ht t m
      · rw [List.mem_singleton.mp m]; exact ⟨fun b hb => (by cases hb), trivial⟩, by rw [List.map_append]; rfl, rfl⟩ ?_ ?_
  · rintro it rest env S ⟨hS, us, a3, a4, a5, a6, a7, a8, a9, a10, hus, hr, rfl⟩
    cases us with
    | nil => cases hr
    | cons t us =>
      cases hr
      have tok := hus t (List.mem_cons_self ..)
      have ll := last_le tok
      have rT := repT w1 h1 tok
      simp only [asgT, setS, Option.bind_some, List.set_cons_zero, List.set_cons_succ, Ok_cons]
      simp +decide only [Ok_nil, SK_rt, FK_rt, FK_nx, evS, evE, evP, evEs, evQs, evPs, evO, evC, evI, Ok_bind, Ok_map, Ok_some, Ok_none, Ok_ite, getS, peekS, setS, wipeS, orc, permA, keyOf, List.map_cons, List.map_nil, List.cons_append, List.nil_append, List.append_nil, List.replicate, List.length_cons, List.length_nil, List.getElem?_cons_zero, List.getElem?_cons_succ, List.set_cons_zero, List.set_cons_succ, Option.map_some, Option.bind_some, asgT, asgTs, seqD, Ts.len, starD, List.take_succ_cons, List.take_zero, List.drop_succ_cons, List.drop_zero, List.take_nil, List.drop_nil, List.flatten_cons, List.flatten_nil, tp_n, tp_b, tp_i, tp_s, tp_t, tp_l, tp_d, tp_k, tp_c, tp_r0, tp_r1, ix_l, ix_t, ix_k, ix_d, ix_di, at0, at1, at2, at3, at4, at5, at6, at7, atm1, atm2, atm3, b_add, b_sub, b_mul, b_div, b_mod, b_pow, b_addT, b_addL, b_mulL, c_lt, c_le, c_gt, c_ge, c_eq, c_ne, c_eqs, c_nes, c_is, c_isnt, n_n, n_t, n_i, n_l, bl_b, int_i, f_len, f_lenT, f_min, f_max, f_abs, f_intB, f_int, f_tup, f_tupT, f_lst, f_lstT, f_sum, r_l0, r_l1, ints_map, c_neNil, c_ne00, sz0, pt0, pt1, pt2, if_true, if_false, ite_true, ite_false, if_false_right, if_false_left, decide_eq_true_eq, Bool.not_eq_true', Bool.not_true, Bool.not_false, decide_eq_false_iff_not, Bool.false_eq_true, reduceCtorEq, true_and, and_true, Int.reduceLT, Int.reduceLE, Int.reducePow, Int.reduceNeg, Int.reduceMul, Int.reduceAdd, Int.reduceSub, Int.reduceToNat, Int.reduceEq, na10, Nat.reducePow, Nat.reduceLT, Nat.reduceLeDiff, Nat.reduceAdd, Nat.reduceSub, true_or, or_true, and_self, rT]
      simp only [SK_nx, Ok_cons]
      simp +decide only [Ok_nil, SK_rt, FK_rt, FK_nx, evS, evE, evP, evEs, evQs, evPs, evO, evC, evI, Ok_bind, Ok_map, Ok_some, Ok_none, Ok_ite, getS, peekS, setS, wipeS, orc, permA, keyOf, List.map_cons, List.map_nil, List.cons_append, List.nil_append, List.append_nil, List.replicate, List.length_cons, List.length_nil, List.getElem?_cons_zero, List.getElem?_cons_succ, List.set_cons_zero, List.set_cons_succ, Option.map_some, Option.bind_some, asgT, asgTs, seqD, Ts.len, starD, List.take_succ_cons, List.take_zero, List.drop_succ_cons, List.drop_zero, List.take_nil, List.drop_nil, List.flatten_cons, List.flatten_nil, tp_n, tp_b, tp_i, tp_s, tp_t, tp_l, tp_d, tp_k, tp_c, tp_r0, tp_r1, ix_l, ix_t, ix_k, ix_d, ix_di, at0, at1, at2, at3, at4, at5, at6, at7, atm1, atm2, atm3, b_add, b_sub, b_mul, b_div, b_mod, b_pow, b_addT, b_addL, b_mulL, c_lt, c_le, c_gt, c_ge, c_eq, c_ne, c_eqs, c_nes, c_is, c_isnt, n_n, n_t, n_i, n_l, bl_b, int_i, f_len, f_lenT, f_min, f_max, f_abs, f_intB, f_int, f_tup, f_tupT, f_lst, f_lstT, f_sum, r_l0, r_l1, ints_map, c_neNil, c_ne00, sz0, pt0, pt1, pt2, if_true, if_false, ite_true, ite_false, if_false_right, if_false_left, decide_eq_true_eq, Bool.not_eq_true', Bool.not_true, Bool.not_false, decide_eq_false_iff_not, Bool.false_eq_true, reduceCtorEq, true_and, and_true, Int.reduceLT, Int.reduceLE, Int.reducePow, Int.reduceNeg, Int.reduceMul, Int.reduceAdd, Int.reduceSub, Int.reduceToNat, Int.reduceEq, na10, Nat.reducePow, Nat.reduceLT, Nat.reduceLeDiff, Nat.reduceAdd, Nat.reduceSub, true_or, or_true, and_self, topT, rT]
      refine last_step_ok ?_
      simp +decide only [Ok_nil, SK_rt, FK_rt, FK_nx, evS, evE, evP, evEs, evQs, evPs, evO, evC, evI, Ok_bind, Ok_map, Ok_some, Ok_none, Ok_ite, getS, peekS, setS, wipeS, orc, permA, keyOf, List.map_cons, List.map_nil, List.cons_append, List.nil_append, List.append_nil, List.replicate, List.length_cons, List.length_nil, List.getElem?_cons_zero, List.getElem?_cons_succ, List.set_cons_zero, List.set_cons_succ, Option.map_some, Option.bind_some, asgT, asgTs, seqD, Ts.len, starD, List.take_succ_cons, List.take_zero, List.drop_succ_cons, List.drop_zero, List.take_nil, List.drop_nil, List.flatten_cons, List.flatten_nil, tp_n, tp_b, tp_i, tp_s, tp_t, tp_l, tp_d, tp_k, tp_c, tp_r0, tp_r1, ix_l, ix_t, ix_k, ix_d, ix_di, at0, at1, at2, at3, at4, at5, at6, at7, atm1, atm2, atm3, b_add, b_sub, b_mul, b_div, b_mod, b_pow, b_addT, b_addL, b_mulL, c_lt, c_le, c_gt, c_ge, c_eq, c_ne, c_eqs, c_nes, c_is, c_isnt, n_n, n_t, n_i, n_l, bl_b, int_i, f_len, f_lenT, f_min, f_max, f_abs, f_intB, f_int, f_tup, f_tupT, f_lst, f_lstT, f_sum, r_l0, r_l1, ints_map, c_neNil, c_ne00, sz0, pt0, pt1, pt2, if_true, if_false, ite_true, ite_false, if_false_right, if_false_left, decide_eq_true_eq, Bool.not_eq_true', Bool.not_true, Bool.not_false, decide_eq_false_iff_not, Bool.false_eq_true, reduceCtorEq, true_and, and_true, Int.reduceLT, Int.reduceLE, Int.reducePow, Int.reduceNeg, Int.reduceMul, Int.reduceAdd, Int.reduceSub, Int.reduceToNat, Int.reduceEq, na10, Nat.reducePow, Nat.reduceLT, Nat.reduceLeDiff, Nat.reduceAdd, Nat.reduceSub, true_or, or_true, and_self, topT]
      refine last_step_ok ?_
      simp +decide only [Ok_nil, SK_rt, FK_rt, FK_nx, evS, evE, evP, evEs, evQs, evPs, evO, evC, evI, Ok_bind, Ok_map, Ok_some, Ok_none, Ok_ite, getS, peekS, setS, wipeS, orc, permA, keyOf, List.map_cons, List.map_nil, List.cons_append, List.nil_append, List.append_nil, List.replicate, List.length_cons, List.length_nil, List.getElem?_cons_zero, List.getElem?_cons_succ, List.set_cons_zero, List.set_cons_succ, Option.map_some, Option.bind_some, asgT, asgTs, seqD, Ts.len, starD, List.take_succ_cons, List.take_zero, List.drop_succ_cons, List.drop_zero, List.take_nil, List.drop_nil, List.flatten_cons, List.flatten_nil, tp_n, tp_b, tp_i, tp_s, tp_t, tp_l, tp_d, tp_k, tp_c, tp_r0, tp_r1, ix_l, ix_t, ix_k, ix_d, ix_di, at0, at1, at2, at3, at4, at5, at6, at7, atm1, atm2, atm3, b_add, b_sub, b_mul, b_div, b_mod, b_pow, b_addT, b_addL, b_mulL, c_lt, c_le, c_gt, c_ge, c_eq, c_ne, c_eqs, c_nes, c_is, c_isnt, n_n, n_t, n_i, n_l, bl_b, int_i, f_len, f_lenT, f_min, f_max, f_abs, f_intB, f_int, f_tup, f_tupT, f_lst, f_lstT, f_sum, r_l0, r_l1, ints_map, c_neNil, c_ne00, sz0, pt0, pt1, pt2, if_true, if_false, ite_true, ite_false, if_false_right, if_false_left, decide_eq_true_eq, Bool.not_eq_true', Bool.not_true, Bool.not_false, decide_eq_false_iff_not, Bool.false_eq_true, reduceCtorEq, true_and, and_true, Int.reduceLT, Int.reduceLE, Int.reducePow, Int.reduceNeg, Int.reduceMul, Int.reduceAdd, Int.reduceSub, Int.reduceToNat, Int.reduceEq, na10, Nat.reducePow, Nat.reduceLT, Nat.reduceLeDiff, Nat.reduceAdd, Nat.reduceSub, true_or, or_true, and_self, topT, rep2 (a := lastF t) (b := lastF t) (by omega) (by omega)]
      refine last_ok ?_
      simp +decide only [Ok_nil, SK_rt, FK_rt, FK_nx, evS, evE, evP, evEs, evQs, evPs, evO, evC, evI, Ok_bind, Ok_map, Ok_some, Ok_none, Ok_ite, getS, peekS, setS, wipeS, orc, permA, keyOf, List.map_cons, List.map_nil, List.cons_append, List.nil_append, List.append_nil, List.replicate, List.length_cons, List.length_nil, List.getElem?_cons_zero, List.getElem?_cons_succ, List.set_cons_zero, List.set_cons_succ, Option.map_some, Option.bind_some, asgT, asgTs, seqD, Ts.len, starD, List.take_succ_cons, List.take_zero, List.drop_succ_cons, List.drop_zero, List.take_nil, List.drop_nil, List.flatten_cons, List.flatten_nil, tp_n, tp_b, tp_i, tp_s, tp_t, tp_l, tp_d, tp_k, tp_c, tp_r0, tp_r1, ix_l, ix_t, ix_k, ix_d, ix_di, at0, at1, at2, at3, at4, at5, at6, at7, atm1, atm2, atm3, b_add, b_sub, b_mul, b_div, b_mod, b_pow, b_addT, b_addL, b_mulL, c_lt, c_le, c_gt, c_ge, c_eq, c_ne, c_eqs, c_nes, c_is, c_isnt, n_n, n_t, n_i, n_l, bl_b, int_i, f_len, f_lenT, f_min, f_max, f_abs, f_intB, f_int, f_tup, f_tupT, f_lst, f_lstT, f_sum, r_l0, r_l1, ints_map, c_neNil, c_ne00, sz0, pt0, pt1, pt2, if_true, if_false, ite_true, ite_false, if_false_right, if_false_left, decide_eq_true_eq, Bool.not_eq_true', Bool.not_true, Bool.not_false, decide_eq_false_iff_not, Bool.false_eq_true, reduceCtorEq, true_and, and_true, Int.reduceLT, Int.reduceLE, Int.reducePow, Int.reduceNeg, Int.reduceMul, Int.reduceAdd, Int.reduceSub, Int.reduceToNat, Int.reduceEq, na10, Nat.reducePow, Nat.reduceLT, Nat.reduceLeDiff, Nat.reduceAdd, Nat.reduceSub, true_or, or_true, and_self, topT, twice, rep2 (a := lastF t) (b := lastF t) (by omega) (by omega)]
      simp only [SK_nx, Ok_cons]
      unfold someD
      simp +decide only [Ok_nil, SK_rt, FK_rt, FK_nx, evS, evE, evP, evEs, evQs, evPs, evO, evC, evI, Ok_bind, Ok_map, Ok_some, Ok_none, Ok_ite, getS, peekS, setS, wipeS, orc, permA, keyOf, List.map_cons, List.map_nil, List.cons_append, List.nil_append, List.append_nil, List.replicate, List.length_cons, List.length_nil, List.getElem?_cons_zero, List.getElem?_cons_succ, List.set_cons_zero, List.set_cons_succ, Option.map_some, Option.bind_some, asgT, asgTs, seqD, Ts.len, starD, List.take_succ_cons, List.take_zero, List.drop_succ_cons, List.drop_zero, List.take_nil, List.drop_nil, List.flatten_cons, List.flatten_nil, tp_n, tp_b, tp_i, tp_s, tp_t, tp_l, tp_d, tp_k, tp_c, tp_r0, tp_r1, ix_l, ix_t, ix_k, ix_d, ix_di, at0, at1, at2, at3, at4, at5, at6, at7, atm1, atm2, atm3, b_add, b_sub, b_mul, b_div, b_mod, b_pow, b_addT, b_addL, b_mulL, c_lt, c_le, c_gt, c_ge, c_eq, c_ne, c_eqs, c_nes, c_is, c_isnt, n_n, n_t, n_i, n_l, bl_b, int_i, f_len, f_lenT, f_min, f_max, f_abs, f_intB, f_int, f_tup, f_tupT, f_lst, f_lstT, f_sum, r_l0, r_l1, ints_map, c_neNil, c_ne00, sz0, pt0, pt1, pt2, if_true, if_false, ite_true, ite_false, if_false_right, if_false_left, decide_eq_true_eq, Bool.not_eq_true', Bool.not_true, Bool.not_false, decide_eq_false_iff_not, Bool.false_eq_true, reduceCtorEq, true_and, and_true, Int.reduceLT, Int.reduceLE, Int.reducePow, Int.reduceNeg, Int.reduceMul, Int.reduceAdd, Int.reduceSub, Int.reduceToNat, Int.reduceEq, na10, Nat.reducePow, Nat.reduceLT, Nat.reduceLeDiff, Nat.reduceAdd, Nat.reduceSub, true_or, or_true, and_self, topT, lkD]
      refine ⟨by unfold small62; simp; omega, ?_⟩
      refine Ok_fr (fun rest env S => Dk [] S ∧ ∃ (k : Int) (a6 a7 a8 a9 a10 : Sl), 0 ≤ k ∧ k ≤ lastF t ∧ (∀ d ∈ rest, ∃ i, d = .int i) ∧ env = [.fz (.scr ns), .fz (.ref 1), .fz (someD w h d p), .fz t.t, .fz (.str (shD t.t)), .fz (.int k), a6, a7, a8, a9, a10])
        ⟨hS, 0, _, _, _, _, _, by omega, by omega, fun d hd => (range_mem hd).imp fun i z => z.1, rfl⟩ ?_ ?_
      · rintro hr rest env S ⟨hS, k, b6, b7, b8, b9, b10, k0, k1, hri, rfl⟩
        obtain ⟨u, rfl⟩ := hri _ (List.mem_cons_self ..)
        simp only [asgT, setS, Option.bind_some, List.set_cons_zero, List.set_cons_succ, Ok_cons]
        simp +decide only [Ok_nil, SK_rt, FK_rt, FK_nx, evS, evE, evP, evEs, evQs, evPs, evO, evC, evI, Ok_bind, Ok_map, Ok_some, Ok_none, Ok_ite, getS, peekS, setS, wipeS, orc, permA, keyOf, List.map_cons, List.map_nil, List.cons_append, List.nil_append, List.append_nil, List.replicate, List.length_cons, List.length_nil, List.getElem?_cons_zero, List.getElem?_cons_succ, List.set_cons_zero, List.set_cons_succ, Option.map_some, Option.bind_some, asgT, asgTs, seqD, Ts.len, starD, List.take_succ_cons, List.take_zero, List.drop_succ_cons, List.drop_zero, List.take_nil, List.drop_nil, List.flatten_cons, List.flatten_nil, tp_n, tp_b, tp_i, tp_s, tp_t, tp_l, tp_d, tp_k, tp_c, tp_r0, tp_r1, ix_l, ix_t, ix_k, ix_d, ix_di, at0, at1, at2, at3, at4, at5, at6, at7, atm1, atm2, atm3, b_add, b_sub, b_mul, b_div, b_mod, b_pow, b_addT, b_addL, b_mulL, c_lt, c_le, c_gt, c_ge, c_eq, c_ne, c_eqs, c_nes, c_is, c_isnt, n_n, n_t, n_i, n_l, bl_b, int_i, f_len, f_lenT, f_min, f_max, f_abs, f_intB, f_int, f_tup, f_tupT, f_lst, f_lstT, f_sum, r_l0, r_l1, ints_map, c_neNil, c_ne00, sz0, pt0, pt1, pt2, if_true, if_false, ite_true, ite_false, if_false_right, if_false_left, decide_eq_true_eq, Bool.not_eq_true', Bool.not_true, Bool.not_false, decide_eq_false_iff_not, Bool.false_eq_true, reduceCtorEq, true_and, and_true, Int.reduceLT, Int.reduceLE, Int.reducePow, Int.reduceNeg, Int.reduceMul, Int.reduceAdd, Int.reduceSub, Int.reduceToNat, Int.reduceEq, na10, Nat.reducePow, Nat.reduceLT, Nat.reduceLeDiff, Nat.reduceAdd, Nat.reduceSub, true_or, or_true, and_self, topT]
        refine square_ok hS w0 w1 h0 h1 tok fun x y S4 k4 => ?_
        simp +decide only [Ok_nil, SK_rt, FK_rt, FK_nx, evS, evE, evP, evEs, evQs, evPs, evO, evC, evI, Ok_bind, Ok_map, Ok_some, Ok_none, Ok_ite, getS, peekS, setS, wipeS, orc, permA, keyOf, List.map_cons, List.map_nil, List.cons_append, List.nil_append, List.append_nil, List.replicate, List.length_cons, List.length_nil, List.getElem?_cons_zero, List.getElem?_cons_succ, List.set_cons_zero, List.set_cons_succ, Option.map_some, Option.bind_some, asgT, asgTs, seqD, Ts.len, starD, List.take_succ_cons, List.take_zero, List.drop_succ_cons, List.drop_zero, List.take_nil, List.drop_nil, List.flatten_cons, List.flatten_nil, tp_n, tp_b, tp_i, tp_s, tp_t, tp_l, tp_d, tp_k, tp_c, tp_r0, tp_r1, ix_l, ix_t, ix_k, ix_d, ix_di, at0, at1, at2, at3, at4, at5, at6, at7, atm1, atm2, atm3, b_add, b_sub, b_mul, b_div, b_mod, b_pow, b_addT, b_addL, b_mulL, c_lt, c_le, c_gt, c_ge, c_eq, c_ne, c_eqs, c_nes, c_is, c_isnt, n_n, n_t, n_i, n_l, bl_b, int_i, f_len, f_lenT, f_min, f_max, f_abs, f_intB, f_int, f_tup, f_tupT, f_lst, f_lstT, f_sum, r_l0, r_l1, ints_map, c_neNil, c_ne00, sz0, pt0, pt1, pt2, if_true, if_false, ite_true, ite_false, if_false_right, if_false_left, decide_eq_true_eq, Bool.not_eq_true', Bool.not_true, Bool.not_false, decide_eq_false_iff_not, Bool.false_eq_true, reduceCtorEq, true_and, and_true, Int.reduceLT, Int.reduceLE, Int.reducePow, Int.reduceNeg, Int.reduceMul, Int.reduceAdd, Int.reduceSub, Int.reduceToNat, Int.reduceEq, na10, Nat.reducePow, Nat.reduceLT, Nat.reduceLeDiff, Nat.reduceAdd, Nat.reduceSub, true_or, or_true, and_self, topT]
        simp only [SK_nx, Ok_cons]
        simp +decide only [Ok_nil, SK_rt, FK_rt, FK_nx, evS, evE, evP, evEs, evQs, evPs, evO, evC, evI, Ok_bind, Ok_map, Ok_some, Ok_none, Ok_ite, getS, peekS, setS, wipeS, orc, permA, keyOf, List.map_cons, List.map_nil, List.cons_append, List.nil_append, List.append_nil, List.replicate, List.length_cons, List.length_nil, List.getElem?_cons_zero, List.getElem?_cons_succ, List.set_cons_zero, List.set_cons_succ, Option.map_some, Option.bind_some, asgT, asgTs, seqD, Ts.len, starD, List.take_succ_cons, List.take_zero, List.drop_succ_cons, List.drop_zero, List.take_nil, List.drop_nil, List.flatten_cons, List.flatten_nil, tp_n, tp_b, tp_i, tp_s, tp_t, tp_l, tp_d, tp_k, tp_c, tp_r0, tp_r1, ix_l, ix_t, ix_k, ix_d, ix_di, at0, at1, at2, at3, at4, at5, at6, at7, atm1, atm2, atm3, b_add, b_sub, b_mul, b_div, b_mod, b_pow, b_addT, b_addL, b_mulL, c_lt, c_le, c_gt, c_ge, c_eq, c_ne, c_eqs, c_nes, c_is, c_isnt, n_n, n_t, n_i, n_l, bl_b, int_i, f_len, f_lenT, f_min, f_max, f_abs, f_intB, f_int, f_tup, f_tupT, f_lst, f_lstT, f_sum, r_l0, r_l1, ints_map, c_neNil, c_ne00, sz0, pt0, pt1, pt2, if_true, if_false, ite_true, ite_false, if_false_right, if_false_left, decide_eq_true_eq, Bool.not_eq_true', Bool.not_true, Bool.not_false, decide_eq_false_iff_not, Bool.false_eq_true, reduceCtorEq, true_and, and_true, Int.reduceLT, Int.reduceLE, Int.reducePow, Int.reduceNeg, Int.reduceMul, Int.reduceAdd, Int.reduceSub, Int.reduceToNat, Int.reduceEq, na10, Nat.reducePow, Nat.reduceLT, Nat.reduceLeDiff, Nat.reduceAdd, Nat.reduceSub, true_or, or_true, and_self, topT]
        refine last_ok ?_
        simp +decide only [Ok_nil, SK_rt, FK_rt, FK_nx, evS, evE, evP, evEs, evQs, evPs, evO, evC, evI, Ok_bind, Ok_map, Ok_some, Ok_none, Ok_ite, getS, peekS, setS, wipeS, orc, permA, keyOf, List.map_cons, List.map_nil, List.cons_append, List.nil_append, List.append_nil, List.replicate, List.length_cons, List.length_nil, List.getElem?_cons_zero, List.getElem?_cons_succ, List.set_cons_zero, List.set_cons_succ, Option.map_some, Option.bind_some, asgT, asgTs, seqD, Ts.len, starD, List.take_succ_cons, List.take_zero, List.drop_succ_cons, List.drop_zero, List.take_nil, List.drop_nil, List.flatten_cons, List.flatten_nil, tp_n, tp_b, tp_i, tp_s, tp_t, tp_l, tp_d, tp_k, tp_c, tp_r0, tp_r1, ix_l, ix_t, ix_k, ix_d, ix_di, at0, at1, at2, at3, at4, at5, at6, at7, atm1, atm2, atm3, b_add, b_sub, b_mul, b_div, b_mod, b_pow, b_addT, b_addL, b_mulL, c_lt, c_le, c_gt, c_ge, c_eq, c_ne, c_eqs, c_nes, c_is, c_isnt, n_n, n_t, n_i, n_l, bl_b, int_i, f_len, f_lenT, f_min, f_max, f_abs, f_intB, f_int, f_tup, f_tupT, f_lst, f_lstT, f_sum, r_l0, r_l1, ints_map, c_neNil, c_ne00, sz0, pt0, pt1, pt2, if_true, if_false, ite_true, ite_false, if_false_right, if_false_left, decide_eq_true_eq, Bool.not_eq_true', Bool.not_true, Bool.not_false, decide_eq_false_iff_not, Bool.false_eq_true, reduceCtorEq, true_and, and_true, Int.reduceLT, Int.reduceLE, Int.reducePow, Int.reduceNeg, Int.reduceMul, Int.reduceAdd, Int.reduceSub, Int.reduceToNat, Int.reduceEq, na10, Nat.reducePow, Nat.reduceLT, Nat.reduceLeDiff, Nat.reduceAdd, Nat.reduceSub, true_or, or_true, and_self, topT]
        refine ⟨by unfold small62; simp; omega, ?_⟩
        refine Ok_lc (fun rest acc S' => S' = S4 ∧ acc = [] ∧ ∀ d ∈ rest, ∃ i, d = .int i ∧ 0 ≤ i ∧ i < lastF t + 1) (by rw [range_len]; simp [sizeLine]; omega) ⟨rfl, rfl, fun d hd => range_mem hd⟩ ?_ ?_
        · rintro d rest acc S ⟨rfl, rfl, hd⟩
          obtain ⟨i, rfl, i0, i1⟩ := hd _ (List.mem_cons_self ..)
          simp +decide only [Ok_nil, SK_rt, FK_rt, FK_nx, evS, evE, evP, evEs, evQs, evPs, evO, evC, evI, Ok_bind, Ok_map, Ok_some, Ok_none, Ok_ite, getS, peekS, setS, wipeS, orc, permA, keyOf, List.map_cons, List.map_nil, List.cons_append, List.nil_append, List.append_nil, List.replicate, List.length_cons, List.length_nil, List.getElem?_cons_zero, List.getElem?_cons_succ, List.set_cons_zero, List.set_cons_succ, Option.map_some, Option.bind_some, asgT, asgTs, seqD, Ts.len, starD, List.take_succ_cons, List.take_zero, List.drop_succ_cons, List.drop_zero, List.take_nil, List.drop_nil, List.flatten_cons, List.flatten_nil, tp_n, tp_b, tp_i, tp_s, tp_t, tp_l, tp_d, tp_k, tp_c, tp_r0, tp_r1, ix_l, ix_t, ix_k, ix_d, ix_di, at0, at1, at2, at3, at4, at5, at6, at7, atm1, atm2, atm3, b_add, b_sub, b_mul, b_div, b_mod, b_pow, b_addT, b_addL, b_mulL, c_lt, c_le, c_gt, c_ge, c_eq, c_ne, c_eqs, c_nes, c_is, c_isnt, n_n, n_t, n_i, n_l, bl_b, int_i, f_len, f_lenT, f_min, f_max, f_abs, f_intB, f_int, f_tup, f_tupT, f_lst, f_lstT, f_sum, r_l0, r_l1, ints_map, c_neNil, c_ne00, sz0, pt0, pt1, pt2, if_true, if_false, ite_true, ite_false, if_false_right, if_false_left, decide_eq_true_eq, Bool.not_eq_true', Bool.not_true, Bool.not_false, decide_eq_false_iff_not, Bool.false_eq_true, reduceCtorEq, true_and, and_true, Int.reduceLT, Int.reduceLE, Int.reducePow, Int.reduceNeg, Int.reduceMul, Int.reduceAdd, Int.reduceSub, Int.reduceToNat, Int.reduceEq, na10, Nat.reducePow, Nat.reduceLT, Nat.reduceLeDiff, Nat.reduceAdd, Nat.reduceSub, true_or, or_true, and_self, topT]
          refine right_ok tok i0 (by omega) ?_
          simp +decide only [Ok_nil, SK_rt, FK_rt, FK_nx, evS, evE, evP, evEs, evQs, evPs, evO, evC, evI, Ok_bind, Ok_map, Ok_some, Ok_none, Ok_ite, getS, peekS, setS, wipeS, orc, permA, keyOf, List.map_cons, List.map_nil, List.cons_append, List.nil_append, List.append_nil, List.replicate, List.length_cons, List.length_nil, List.getElem?_cons_zero, List.getElem?_cons_succ, List.set_cons_zero, List.set_cons_succ, Option.map_some, Option.bind_some, asgT, asgTs, seqD, Ts.len, starD, List.take_succ_cons, List.take_zero, List.drop_succ_cons, List.drop_zero, List.take_nil, List.drop_nil, List.flatten_cons, List.flatten_nil, tp_n, tp_b, tp_i, tp_s, tp_t, tp_l, tp_d, tp_k, tp_c, tp_r0, tp_r1, ix_l, ix_t, ix_k, ix_d, ix_di, at0, at1, at2, at3, at4, at5, at6, at7, atm1, atm2, atm3, b_add, b_sub, b_mul, b_div, b_mod, b_pow, b_addT, b_addL, b_mulL, c_lt, c_le, c_gt, c_ge, c_eq, c_ne, c_eqs, c_nes, c_is, c_isnt, n_n, n_t, n_i, n_l, bl_b, int_i, f_len, f_lenT, f_min, f_max, f_abs, f_intB, f_int, f_tup, f_tupT, f_lst, f_lstT, f_sum, r_l0, r_l1, ints_map, c_neNil, c_ne00, sz0, pt0, pt1, pt2, if_true, if_false, ite_true, ite_false, if_false_right, if_false_left, decide_eq_true_eq, Bool.not_eq_true', Bool.not_true, Bool.not_false, decide_eq_false_iff_not, Bool.false_eq_true, reduceCtorEq, true_and, and_true, Int.reduceLT, Int.reduceLE, Int.reducePow, Int.reduceNeg, Int.reduceMul, Int.reduceAdd, Int.reduceSub, Int.reduceToNat, Int.reduceEq, na10, Nat.reducePow, Nat.reduceLT, Nat.reduceLeDiff, Nat.reduceAdd, Nat.reduceSub, true_or, or_true, and_self, topT]
          exact fun d m => hd d (List.mem_cons_of_mem _ m)
        · rintro acc S ⟨rfl, rfl, -⟩
          simp +decide only [Ok_nil, SK_rt, FK_rt, FK_nx, evS, evE, evP, evEs, evQs, evPs, evO, evC, evI, Ok_bind, Ok_map, Ok_some, Ok_none, Ok_ite, getS, peekS, setS, wipeS, orc, permA, keyOf, List.map_cons, List.map_nil, List.cons_append, List.nil_append, List.append_nil, List.replicate, List.length_cons, List.length_nil, List.getElem?_cons_zero, List.getElem?_cons_succ, List.set_cons_zero, List.set_cons_succ, Option.map_some, Option.bind_some, asgT, asgTs, seqD, Ts.len, starD, List.take_succ_cons, List.take_zero, List.drop_succ_cons, List.drop_zero, List.take_nil, List.drop_nil, List.flatten_cons, List.flatten_nil, tp_n, tp_b, tp_i, tp_s, tp_t, tp_l, tp_d, tp_k, tp_c, tp_r0, tp_r1, ix_l, ix_t, ix_k, ix_d, ix_di, at0, at1, at2, at3, at4, at5, at6, at7, atm1, atm2, atm3, b_add, b_sub, b_mul, b_div, b_mod, b_pow, b_addT, b_addL, b_mulL, c_lt, c_le, c_gt, c_ge, c_eq, c_ne, c_eqs, c_nes, c_is, c_isnt, n_n, n_t, n_i, n_l, bl_b, int_i, f_len, f_lenT, f_min, f_max, f_abs, f_intB, f_int, f_tup, f_tupT, f_lst, f_lstT, f_sum, r_l0, r_l1, ints_map, c_neNil, c_ne00, sz0, pt0, pt1, pt2, if_true, if_false, ite_true, ite_false, if_false_right, if_false_left, decide_eq_true_eq, Bool.not_eq_true', Bool.not_true, Bool.not_false, decide_eq_false_iff_not, Bool.false_eq_true, reduceCtorEq, true_and, and_true, Int.reduceLT, Int.reduceLE, Int.reducePow, Int.reduceNeg, Int.reduceMul, Int.reduceAdd, Int.reduceSub, Int.reduceToNat, Int.reduceEq, na10, Nat.reducePow, Nat.reduceLT, Nat.reduceLeDiff, Nat.reduceAdd, Nat.reduceSub, true_or, or_true, and_self, topT]
          simp only [SK_nx, Ok_cons]
          simp +decide only [Ok_nil, SK_rt, FK_rt, FK_nx, evS, evE, evP, evEs, evQs, evPs, evO, evC, evI, Ok_bind, Ok_map, Ok_some, Ok_none, Ok_ite, getS, peekS, setS, wipeS, orc, permA, keyOf, List.map_cons, List.map_nil, List.cons_append, List.nil_append, List.append_nil, List.replicate, List.length_cons, List.length_nil, List.getElem?_cons_zero, List.getElem?_cons_succ, List.set_cons_zero, List.set_cons_succ, Option.map_some, Option.bind_some, asgT, asgTs, seqD, Ts.len, starD, List.take_succ_cons, List.take_zero, List.drop_succ_cons, List.drop_zero, List.take_nil, List.drop_nil, List.flatten_cons, List.flatten_nil, tp_n, tp_b, tp_i, tp_s, tp_t, tp_l, tp_d, tp_k, tp_c, tp_r0, tp_r1, ix_l, ix_t, ix_k, ix_d, ix_di, at0, at1, at2, at3, at4, at5, at6, at7, atm1, atm2, atm3, b_add, b_sub, b_mul, b_div, b_mod, b_pow, b_addT, b_addL, b_mulL, c_lt, c_le, c_gt, c_ge, c_eq, c_ne, c_eqs, c_nes, c_is, c_isnt, n_n, n_t, n_i, n_l, bl_b, int_i, f_len, f_lenT, f_min, f_max, f_abs, f_intB, f_int, f_tup, f_tupT, f_lst, f_lstT, f_sum, r_l0, r_l1, ints_map, c_neNil, c_ne00, sz0, pt0, pt1, pt2, if_true, if_false, ite_true, ite_false, if_false_right, if_false_left, decide_eq_true_eq, Bool.not_eq_true', Bool.not_true, Bool.not_false, decide_eq_false_iff_not, Bool.false_eq_true, reduceCtorEq, true_and, and_true, Int.reduceLT, Int.reduceLE, Int.reducePow, Int.reduceNeg, Int.reduceMul, Int.reduceAdd, Int.reduceSub, Int.reduceToNat, Int.reduceEq, na10, Nat.reducePow, Nat.reduceLT, Nat.reduceLeDiff, Nat.reduceAdd, Nat.reduceSub, true_or, or_true, and_self, topT]
          refine step_ok ?_
          have sl := stepF_le (x := x) (y := y) (u := u) tok k0 k1
          simp +decide only [Ok_nil, SK_rt, FK_rt, FK_nx, evS, evE, evP, evEs, evQs, evPs, evO, evC, evI, Ok_bind, Ok_map, Ok_some, Ok_none, Ok_ite, getS, peekS, setS, wipeS, orc, permA, keyOf, List.map_cons, List.map_nil, List.cons_append, List.nil_append, List.append_nil, List.replicate, List.length_cons, List.length_nil, List.getElem?_cons_zero, List.getElem?_cons_succ, List.set_cons_zero, List.set_cons_succ, Option.map_some, Option.bind_some, asgT, asgTs, seqD, Ts.len, starD, List.take_succ_cons, List.take_zero, List.drop_succ_cons, List.drop_zero, List.take_nil, List.drop_nil, List.flatten_cons, List.flatten_nil, tp_n, tp_b, tp_i, tp_s, tp_t, tp_l, tp_d, tp_k, tp_c, tp_r0, tp_r1, ix_l, ix_t, ix_k, ix_d, ix_di, at0, at1, at2, at3, at4, at5, at6, at7, atm1, atm2, atm3, b_add, b_sub, b_mul, b_div, b_mod, b_pow, b_addT, b_addL, b_mulL, c_lt, c_le, c_gt, c_ge, c_eq, c_ne, c_eqs, c_nes, c_is, c_isnt, n_n, n_t, n_i, n_l, bl_b, int_i, f_len, f_lenT, f_min, f_max, f_abs, f_intB, f_int, f_tup, f_tupT, f_lst, f_lstT, f_sum, r_l0, r_l1, ints_map, c_neNil, c_ne00, sz0, pt0, pt1, pt2, if_true, if_false, ite_true, ite_false, if_false_right, if_false_left, decide_eq_true_eq, Bool.not_eq_true', Bool.not_true, Bool.not_false, decide_eq_false_iff_not, Bool.false_eq_true, reduceCtorEq, true_and, and_true, Int.reduceLT, Int.reduceLE, Int.reducePow, Int.reduceNeg, Int.reduceMul, Int.reduceAdd, Int.reduceSub, Int.reduceToNat, Int.reduceEq, na10, Nat.reducePow, Nat.reduceLT, Nat.reduceLeDiff, Nat.reduceAdd, Nat.reduceSub, true_or, or_true, and_self, topT]
          simp only [SK_nx, Ok_cons]
          simp +decide only [Ok_nil, SK_rt, FK_rt, FK_nx, evS, evE, evP, evEs, evQs, evPs, evO, evC, evI, Ok_bind, Ok_map, Ok_some, Ok_none, Ok_ite, getS, peekS, setS, wipeS, orc, permA, keyOf, List.map_cons, List.map_nil, List.cons_append, List.nil_append, List.append_nil, List.replicate, List.length_cons, List.length_nil, List.getElem?_cons_zero, List.getElem?_cons_succ, List.set_cons_zero, List.set_cons_succ, Option.map_some, Option.bind_some, asgT, asgTs, seqD, Ts.len, starD, List.take_succ_cons, List.take_zero, List.drop_succ_cons, List.drop_zero, List.take_nil, List.drop_nil, List.flatten_cons, List.flatten_nil, tp_n, tp_b, tp_i, tp_s, tp_t, tp_l, tp_d, tp_k, tp_c, tp_r0, tp_r1, ix_l, ix_t, ix_k, ix_d, ix_di, at0, at1, at2, at3, at4, at5, at6, at7, atm1, atm2, atm3, b_add, b_sub, b_mul, b_div, b_mod, b_pow, b_addT, b_addL, b_mulL, c_lt, c_le, c_gt, c_ge, c_eq, c_ne, c_eqs, c_nes, c_is, c_isnt, n_n, n_t, n_i, n_l, bl_b, int_i, f_len, f_lenT, f_min, f_max, f_abs, f_intB, f_int, f_tup, f_tupT, f_lst, f_lstT, f_sum, r_l0, r_l1, ints_map, c_neNil, c_ne00, sz0, pt0, pt1, pt2, if_true, if_false, ite_true, ite_false, if_false_right, if_false_left, decide_eq_true_eq, Bool.not_eq_true', Bool.not_true, Bool.not_false, decide_eq_false_iff_not, Bool.false_eq_true, reduceCtorEq, true_and, and_true, Int.reduceLT, Int.reduceLE, Int.reducePow, Int.reduceNeg, Int.reduceMul, Int.reduceAdd, Int.reduceSub, Int.reduceToNat, Int.reduceEq, na10, Nat.reducePow, Nat.reduceLT, Nat.reduceLeDiff, Nat.reduceAdd, Nat.reduceSub, true_or, or_true, and_self, topT, rep1 (a := stepF t k x y u) (by omega)]
          refine becomes_ok ?_
          simp +decide only [Ok_nil, SK_rt, FK_rt, FK_nx, evS, evE, evP, evEs, evQs, evPs, evO, evC, evI, Ok_bind, Ok_map, Ok_some, Ok_none, Ok_ite, getS, peekS, setS, wipeS, orc, permA, keyOf, List.map_cons, List.map_nil, List.cons_append, List.nil_append, List.append_nil, List.replicate, List.length_cons, List.length_nil, List.getElem?_cons_zero, List.getElem?_cons_succ, List.set_cons_zero, List.set_cons_succ, Option.map_some, Option.bind_some, asgT, asgTs, seqD, Ts.len, starD, List.take_succ_cons, List.take_zero, List.drop_succ_cons, List.drop_zero, List.take_nil, List.drop_nil, List.flatten_cons, List.flatten_nil, tp_n, tp_b, tp_i, tp_s, tp_t, tp_l, tp_d, tp_k, tp_c, tp_r0, tp_r1, ix_l, ix_t, ix_k, ix_d, ix_di, at0, at1, at2, at3, at4, at5, at6, at7, atm1, atm2, atm3, b_add, b_sub, b_mul, b_div, b_mod, b_pow, b_addT, b_addL, b_mulL, c_lt, c_le, c_gt, c_ge, c_eq, c_ne, c_eqs, c_nes, c_is, c_isnt, n_n, n_t, n_i, n_l, bl_b, int_i, f_len, f_lenT, f_min, f_max, f_abs, f_intB, f_int, f_tup, f_tupT, f_lst, f_lstT, f_sum, r_l0, r_l1, ints_map, c_neNil, c_ne00, sz0, pt0, pt1, pt2, if_true, if_false, ite_true, ite_false, if_false_right, if_false_left, decide_eq_true_eq, Bool.not_eq_true', Bool.not_true, Bool.not_false, decide_eq_false_iff_not, Bool.false_eq_true, reduceCtorEq, true_and, and_true, Int.reduceLT, Int.reduceLE, Int.reducePow, Int.reduceNeg, Int.reduceMul, Int.reduceAdd, Int.reduceSub, Int.reduceToNat, Int.reduceEq, na10, Nat.reducePow, Nat.reduceLT, Nat.reduceLeDiff, Nat.reduceAdd, Nat.reduceSub, true_or, or_true, and_self, topT, rep1 (a := stepF t k x y u) (by omega)]
          simp only [SK_nx, Ok_cons]
          simp +decide only [Ok_nil, SK_rt, FK_rt, FK_nx, evS, evE, evP, evEs, evQs, evPs, evO, evC, evI, Ok_bind, Ok_map, Ok_some, Ok_none, Ok_ite, getS, peekS, setS, wipeS, orc, permA, keyOf, List.map_cons, List.map_nil, List.cons_append, List.nil_append, List.append_nil, List.replicate, List.length_cons, List.length_nil, List.getElem?_cons_zero, List.getElem?_cons_succ, List.set_cons_zero, List.set_cons_succ, Option.map_some, Option.bind_some, asgT, asgTs, seqD, Ts.len, starD, List.take_succ_cons, List.take_zero, List.drop_succ_cons, List.drop_zero, List.take_nil, List.drop_nil, List.flatten_cons, List.flatten_nil, tp_n, tp_b, tp_i, tp_s, tp_t, tp_l, tp_d, tp_k, tp_c, tp_r0, tp_r1, ix_l, ix_t, ix_k, ix_d, ix_di, at0, at1, at2, at3, at4, at5, at6, at7, atm1, atm2, atm3, b_add, b_sub, b_mul, b_div, b_mod, b_pow, b_addT, b_addL, b_mulL, c_lt, c_le, c_gt, c_ge, c_eq, c_ne, c_eqs, c_nes, c_is, c_isnt, n_n, n_t, n_i, n_l, bl_b, int_i, f_len, f_lenT, f_min, f_max, f_abs, f_intB, f_int, f_tup, f_tupT, f_lst, f_lstT, f_sum, r_l0, r_l1, ints_map, c_neNil, c_ne00, sz0, pt0, pt1, pt2, if_true, if_false, ite_true, ite_false, if_false_right, if_false_left, decide_eq_true_eq, Bool.not_eq_true', Bool.not_true, Bool.not_false, decide_eq_false_iff_not, Bool.false_eq_true, reduceCtorEq, true_and, and_true, Int.reduceLT, Int.reduceLE, Int.reducePow, Int.reduceNeg, Int.reduceMul, Int.reduceAdd, Int.reduceSub, Int.reduceToNat, Int.reduceEq, na10, Nat.reducePow, Nat.reduceLT, Nat.reduceLeDiff, Nat.reduceAdd, Nat.reduceSub, true_or, or_true, and_self, topT]
          simp only [SK_nx, Ok_nil]
          exact ⟨k4, _, _, _, _, _, _, sl.1, sl.2, fun d m => hri d (List.mem_cons_of_mem _ m), rfl⟩
      · rintro env S ⟨hS, k, b6, b7, b8, b9, b10, k0, k1, hri, rfl⟩
        simp only [SK_nx, Ok_cons]
        simp +decide only [Ok_nil, SK_rt, FK_rt, FK_nx, evS, evE, evP, evEs, evQs, evPs, evO, evC, evI, Ok_bind, Ok_map, Ok_some, Ok_none, Ok_ite, getS, peekS, setS, wipeS, orc, permA, keyOf, List.map_cons, List.map_nil, List.cons_append, List.nil_append, List.append_nil, List.replicate, List.length_cons, List.length_nil, List.getElem?_cons_zero, List.getElem?_cons_succ, List.set_cons_zero, List.set_cons_succ, Option.map_some, Option.bind_some, asgT, asgTs, seqD, Ts.len, starD, List.take_succ_cons, List.take_zero, List.drop_succ_cons, List.drop_zero, List.take_nil, List.drop_nil, List.flatten_cons, List.flatten_nil, tp_n, tp_b, tp_i, tp_s, tp_t, tp_l, tp_d, tp_k, tp_c, tp_r0, tp_r1, ix_l, ix_t, ix_k, ix_d, ix_di, at0, at1, at2, at3, at4, at5, at6, at7, atm1, atm2, atm3, b_add, b_sub, b_mul, b_div, b_mod, b_pow, b_addT, b_addL, b_mulL, c_lt, c_le, c_gt, c_ge, c_eq, c_ne, c_eqs, c_nes, c_is, c_isnt, n_n, n_t, n_i, n_l, bl_b, int_i, f_len, f_lenT, f_min, f_max, f_abs, f_intB, f_int, f_tup, f_tupT, f_lst, f_lstT, f_sum, r_l0, r_l1, ints_map, c_neNil, c_ne00, sz0, pt0, pt1, pt2, if_true, if_false, ite_true, ite_false, if_false_right, if_false_left, decide_eq_true_eq, Bool.not_eq_true', Bool.not_true, Bool.not_false, decide_eq_false_iff_not, Bool.false_eq_true, reduceCtorEq, true_and, and_true, Int.reduceLT, Int.reduceLE, Int.reducePow, Int.reduceNeg, Int.reduceMul, Int.reduceAdd, Int.reduceSub, Int.reduceToNat, Int.reduceEq, na10, Nat.reducePow, Nat.reduceLT, Nat.reduceLeDiff, Nat.reduceAdd, Nat.reduceSub, true_or, or_true, and_self, topT, rT]
        simp only [SK_nx, Ok_nil]
        exact ⟨hS, us, _, _, _, _, _, _, _, _, fun t m => hus t (List.mem_cons_of_mem _ m), rfl, rfl⟩
  · rintro env S ⟨hS, us, a3, a4, a5, a6, a7, a8, a9, a10, hus, hr, rfl⟩
    simp only [SK_nx, Ok_cons]
    simp +decide only [Ok_nil, SK_rt, FK_rt, FK_nx, evS, evE, evP, evEs, evQs, evPs, evO, evC, evI, Ok_bind, Ok_map, Ok_some, Ok_none, Ok_ite, getS, peekS, setS, wipeS, orc, permA, keyOf, List.map_cons, List.map_nil, List.cons_append, List.nil_append, List.append_nil, List.replicate, List.length_cons, List.length_nil, List.getElem?_cons_zero, List.getElem?_cons_succ, List.set_cons_zero, List.set_cons_succ, Option.map_some, Option.bind_some, asgT, asgTs, seqD, Ts.len, starD, List.take_succ_cons, List.take_zero, List.drop_succ_cons, List.drop_zero, List.take_nil, List.drop_nil, List.flatten_cons, List.flatten_nil, tp_n, tp_b, tp_i, tp_s, tp_t, tp_l, tp_d, tp_k, tp_c, tp_r0, tp_r1, ix_l, ix_t, ix_k, ix_d, ix_di, at0, at1, at2, at3, at4, at5, at6, at7, atm1, atm2, atm3, b_add, b_sub, b_mul, b_div, b_mod, b_pow, b_addT, b_addL, b_mulL, c_lt, c_le, c_gt, c_ge, c_eq, c_ne, c_eqs, c_nes, c_is, c_isnt, n_n, n_t, n_i, n_l, bl_b, int_i, f_len, f_lenT, f_min, f_max, f_abs, f_intB, f_int, f_tup, f_tupT, f_lst, f_lstT, f_sum, r_l0, r_l1, ints_map, c_neNil, c_ne00, sz0, pt0, pt1, pt2, if_true, if_false, ite_true, ite_false, if_false_right, if_false_left, decide_eq_true_eq, Bool.not_eq_true', Bool.not_true, Bool.not_false, decide_eq_false_iff_not, Bool.false_eq_true, reduceCtorEq, true_and, and_true, Int.reduceLT, Int.reduceLE, Int.reducePow, Int.reduceNeg, Int.reduceMul, Int.reduceAdd, Int.reduceSub, Int.reduceToNat, Int.reduceEq, na10, Nat.reducePow, Nat.reduceLT, Nat.reduceLeDiff, Nat.reduceAdd, Nat.reduceSub, true_or, or_true, and_self]
theorem plain (ns : List Int) (_ : ns.length ≤ 63) : ∃ S', callN prg 5 17 [.scr ns] [] = some (.bl true, S') := by
  obtain ⟨⟨d, S⟩, e, q⟩ := law_ok (ns := ns)
  have q' : d = .bl true := q
  exact ⟨S, by rw [e, q']⟩
end
end K06
set_option Elab.async false
set_option linter.all false
set_option maxRecDepth 100000
set_option maxHeartbeats 4000000
namespace K06h
open K06 PySem PySem.Spec PyProof.Rows L2 Wf

abbrev pw : Program := PySem.Challenge.pw_windfleet_k06_steps_of_tasks
def top (i : Nat) : Stmt := pw.main.body.getD i (.Pass ⟨0, 0, 0, 0⟩)
def x0 : Df := ⟨⟨("has_square", none), "has_square", "has_square", defArgs (top 1), defBody (top 1), defScope (top 1), [], []⟩, ["box", "x", "y", "left", "low", "right", "top", "others"], ["box", "x", "y"], ⟨3, 8, b0⟩⟩
def x1 : Df := ⟨⟨("last_step", none), "last_step", "last_step", defArgs (top 4), defBody (top 4), defScope (top 4), [], []⟩, ["task"], ["task"], ⟨1, 1, b1⟩⟩
def x2 : Df := ⟨⟨("box_for", none), "box_for", "box_for", defArgs (top 5), defBody (top 5), defScope (top 5), [], []⟩, ["task", "step"], ["task", "step"], ⟨2, 2, b2⟩⟩
def x3 : Df := ⟨⟨("step_by", none), "step_by", "step_by", defArgs (top 6), defBody (top 6), defScope (top 6), [], []⟩, ["task", "step", "x", "y", "beat", "others", "first", "last"], ["task", "step", "x", "y", "beat"], ⟨5, 8, b3⟩⟩
def x4 : Df := ⟨⟨("load_of", none), "load_of", "load_of", defArgs (top 7), defBody (top 7), defScope (top 7), [], []⟩, ["task", "step"], ["task", "step"], ⟨2, 2, b4⟩⟩
def x5 : Df := ⟨⟨("_law_deck", none), "_law_deck", "_law_deck", defArgs (top 9), defBody (top 9), defScope (top 9), [], []⟩, ["_law_script", "_law_cells", "_law_cell"], ["_law_script"], ⟨1, 3, b5⟩⟩
def x6 : Df := ⟨⟨("_law_draw", none), "_law_draw", "_law_draw", defArgs (top 10), defBody (top 10), defScope (top 10), [], []⟩, ["_law_deck_here", "_law_many", "_law_cell", "_law_mixed"], ["_law_deck_here", "_law_many"], ⟨2, 4, b6⟩⟩
def x7 : Df := ⟨⟨("_law_pick", none), "_law_pick", "_law_pick", defArgs (top 11), defBody (top 11), defScope (top 11), [], []⟩, ["_law_deck_here", "_law_some"], ["_law_deck_here", "_law_some"], ⟨2, 2, b7⟩⟩
def x8 : Df := ⟨⟨("_law_bounds", none), "_law_bounds", "_law_bounds", defArgs (top 12), defBody (top 12), defScope (top 12), [], []⟩, ["_law_deck_here", "_law_least", "_law_most"], ["_law_deck_here", "_law_least", "_law_most"], ⟨3, 3, b8⟩⟩
def x9 : Df := ⟨⟨("_law_fields", none), "_law_fields", "_law_fields", defArgs (top 13), defBody (top 13), defScope (top 13), [], []⟩, ["_law_deck_here", "_law_some", "_law_many", "_law_k"], ["_law_deck_here"], ⟨1, 4, b9⟩⟩
def x10 : Df := ⟨⟨("_law_box", none), "_law_box", "_law_box", defArgs (top 14), defBody (top 14), defScope (top 14), [], []⟩, ["_law_deck_here", "_law_some", "_law_ax", "_law_ay"], ["_law_deck_here", "_law_some"], ⟨2, 4, b10⟩⟩
def x11 : Df := ⟨⟨("_law_tasks", none), "_law_tasks", "_law_tasks", defArgs (top 15), defBody (top 15), defScope (top 15), [], []⟩, ["_law_deck_here", "_law_some", "_law_found", "_law_k", "_law_first", "_law_hours", "_law_box_here", "_law_other", "_law_begun"], ["_law_deck_here", "_law_some"], ⟨2, 9, b11⟩⟩
def x12 : Df := ⟨⟨("_law_last", none), "_law_last", "_law_last", defArgs (top 16), defBody (top 16), defScope (top 16), [], []⟩, ["_law_it"], ["_law_it"], ⟨1, 1, b12⟩⟩
def x13 : Df := ⟨⟨("_law_in", none), "_law_in", "_law_in", defArgs (top 17), defBody (top 17), defScope (top 17), [], []⟩, ["_law_box_here", "_law_ax", "_law_ay"], ["_law_box_here", "_law_ax", "_law_ay"], ⟨3, 3, b13⟩⟩
def x14 : Df := ⟨⟨("_law_becomes", none), "_law_becomes", "_law_becomes", defArgs (top 18), defBody (top 18), defScope (top 18), [], []⟩, ["_law_it", "_law_k", "_law_ax", "_law_ay", "_law_hour", "_law_during", "_law_box_here"], ["_law_it", "_law_k", "_law_ax", "_law_ay", "_law_hour"], ⟨5, 7, b14⟩⟩
def x15 : Df := ⟨⟨("_law_square", none), "_law_square", "_law_square", defArgs (top 19), defBody (top 19), defScope (top 19), [], []⟩, ["_law_deck_here", "_law_some", "_law_it", "_law_way", "_law_box_here", "_law_far", "_law_a", "_law_b", "_law_c", "_law_d"], ["_law_deck_here", "_law_some", "_law_it"], ⟨3, 10, b15⟩⟩
def x16 : Df := ⟨⟨("_law_right", none), "_law_right", "_law_right", defArgs (top 20), defBody (top 20), defScope (top 20), [], []⟩, ["_law_it", "_law_k", "_law_ax", "_law_ay", "_law_hour", "_law_due", "_law_here", "_law_load"], ["_law_it", "_law_k", "_law_ax", "_law_ay", "_law_hour"], ⟨5, 8, b16⟩⟩
def x17 : Df := ⟨⟨("law", none), "law", "law", defArgs (top 21), defBody (top 21), defScope (top 21), [], []⟩, ["_law_script", "_law_deck_here", "_law_some", "_law_it", "_law_kept", "_law_k", "_law_hour", "_law_ax", "_law_ay", "_law_behind", "_law_one"], ["_law_script"], ⟨1, 11, b17⟩⟩
def dfs : List Df := [x0, x1, x2, x3, x4, x5, x6, x7, x8, x9, x10, x11, x12, x13, x14, x15, x16, x17]
def gls : List (Str × D) := [("LAST_STEPS", (D.kdc [("look", (D.int 1)), ("bring", (D.int 2))]))]
def clsOf (K : PySem.W.Frag) : List Addr := []
def cs : List CS := [⟨1, 1, [], [.vi 0]⟩, ⟨0, 3, [], [.vi 0, .vi 1, .vi 2]⟩, ⟨2, 2, [], [.vi 0, .vi 1]⟩, ⟨6, 2, [], [.vi 0, .vi 1]⟩, ⟨7, 2, [], [.vi 0, .vi 1]⟩, ⟨8, 3, [], [.vi 0, .vi 1, .vi 2]⟩, ⟨10, 2, [], [.vi 0, .vi 1]⟩, ⟨12, 1, [], [.vi 0]⟩, ⟨13, 3, [], [.vi 0, .vi 1, .vi 2]⟩, ⟨14, 5, [], [.vi 0, .vi 1, .vi 2, .vi 3, .vi 4]⟩, ⟨3, 5, [], [.vi 0, .vi 1, .vi 2, .vi 3, .vi 4]⟩, ⟨3, 0, ["beat", "y", "x", "step", "task"], [.vi 4, .vi 3, .vi 2, .vi 1, .vi 0]⟩, ⟨4, 2, [], [.vi 0, .vi 1]⟩, ⟨4, 0, ["step", "task"], [.vi 1, .vi 0]⟩, ⟨5, 1, [], [.vi 0]⟩, ⟨9, 1, [], [.vi 0]⟩, ⟨11, 2, [], [.vi 0, .vi 1]⟩, ⟨1, 0, ["task"], [.vi 0]⟩, ⟨15, 3, [], [.vi 0, .vi 1, .vi 2]⟩, ⟨16, 5, [], [.vi 0, .vi 1, .vi 2, .vi 3, .vi 4]⟩]
def tb : Tb := ⟨dfs.map (·.d.name), cs, gls.map (·.1)⟩
theorem looked (x : Df) (h : x ∈ dfs) : okDf tb x = true := by
  have z : dfs.all (okDf tb) = true := by kernel_rfl
  exact List.all_eq_true.mp z x h
theorem cb0 {G : Cr} (fd : FuncData) (F : FunOf G.K x1 fd) : CB G fd x1.ps 1 [] [.vi 0] := cb_of F rfl fun kV doc pm an cdv ct us ws h1 h2 => match us, ws, h1, h2 with
  | [u0], [], _, _ => ⟨[u0], by kernel_rfl, (.vi rfl .nil), rfl⟩
theorem cb1 {G : Cr} (fd : FuncData) (F : FunOf G.K x0 fd) : CB G fd x0.ps 3 [] [.vi 0, .vi 1, .vi 2] := cb_of F rfl fun kV doc pm an cdv ct us ws h1 h2 => match us, ws, h1, h2 with
  | [u0, u1, u2], [], _, _ => ⟨[u0, u1, u2], by kernel_rfl, (.vi rfl (.vi rfl (.vi rfl .nil))), rfl⟩
theorem cb2 {G : Cr} (fd : FuncData) (F : FunOf G.K x2 fd) : CB G fd x2.ps 2 [] [.vi 0, .vi 1] := cb_of F rfl fun kV doc pm an cdv ct us ws h1 h2 => match us, ws, h1, h2 with
  | [u0, u1], [], _, _ => ⟨[u0, u1], by kernel_rfl, (.vi rfl (.vi rfl .nil)), rfl⟩
theorem cb3 {G : Cr} (fd : FuncData) (F : FunOf G.K x6 fd) : CB G fd x6.ps 2 [] [.vi 0, .vi 1] := cb_of F rfl fun kV doc pm an cdv ct us ws h1 h2 => match us, ws, h1, h2 with
  | [u0, u1], [], _, _ => ⟨[u0, u1], by kernel_rfl, (.vi rfl (.vi rfl .nil)), rfl⟩
theorem cb4 {G : Cr} (fd : FuncData) (F : FunOf G.K x7 fd) : CB G fd x7.ps 2 [] [.vi 0, .vi 1] := cb_of F rfl fun kV doc pm an cdv ct us ws h1 h2 => match us, ws, h1, h2 with
  | [u0, u1], [], _, _ => ⟨[u0, u1], by kernel_rfl, (.vi rfl (.vi rfl .nil)), rfl⟩
theorem cb5 {G : Cr} (fd : FuncData) (F : FunOf G.K x8 fd) : CB G fd x8.ps 3 [] [.vi 0, .vi 1, .vi 2] := cb_of F rfl fun kV doc pm an cdv ct us ws h1 h2 => match us, ws, h1, h2 with
  | [u0, u1, u2], [], _, _ => ⟨[u0, u1, u2], by kernel_rfl, (.vi rfl (.vi rfl (.vi rfl .nil))), rfl⟩
theorem cb6 {G : Cr} (fd : FuncData) (F : FunOf G.K x10 fd) : CB G fd x10.ps 2 [] [.vi 0, .vi 1] := cb_of F rfl fun kV doc pm an cdv ct us ws h1 h2 => match us, ws, h1, h2 with
  | [u0, u1], [], _, _ => ⟨[u0, u1], by kernel_rfl, (.vi rfl (.vi rfl .nil)), rfl⟩
theorem cb7 {G : Cr} (fd : FuncData) (F : FunOf G.K x12 fd) : CB G fd x12.ps 1 [] [.vi 0] := cb_of F rfl fun kV doc pm an cdv ct us ws h1 h2 => match us, ws, h1, h2 with
  | [u0], [], _, _ => ⟨[u0], by kernel_rfl, (.vi rfl .nil), rfl⟩
theorem cb8 {G : Cr} (fd : FuncData) (F : FunOf G.K x13 fd) : CB G fd x13.ps 3 [] [.vi 0, .vi 1, .vi 2] := cb_of F rfl fun kV doc pm an cdv ct us ws h1 h2 => match us, ws, h1, h2 with
  | [u0, u1, u2], [], _, _ => ⟨[u0, u1, u2], by kernel_rfl, (.vi rfl (.vi rfl (.vi rfl .nil))), rfl⟩
theorem cb9 {G : Cr} (fd : FuncData) (F : FunOf G.K x14 fd) : CB G fd x14.ps 5 [] [.vi 0, .vi 1, .vi 2, .vi 3, .vi 4] := cb_of F rfl fun kV doc pm an cdv ct us ws h1 h2 => match us, ws, h1, h2 with
  | [u0, u1, u2, u3, u4], [], _, _ => ⟨[u0, u1, u2, u3, u4], by kernel_rfl, (.vi rfl (.vi rfl (.vi rfl (.vi rfl (.vi rfl .nil))))), rfl⟩
theorem cb10 {G : Cr} (fd : FuncData) (F : FunOf G.K x3 fd) : CB G fd x3.ps 5 [] [.vi 0, .vi 1, .vi 2, .vi 3, .vi 4] := cb_of F rfl fun kV doc pm an cdv ct us ws h1 h2 => match us, ws, h1, h2 with
  | [u0, u1, u2, u3, u4], [], _, _ => ⟨[u0, u1, u2, u3, u4], by kernel_rfl, (.vi rfl (.vi rfl (.vi rfl (.vi rfl (.vi rfl .nil))))), rfl⟩
theorem cb11 {G : Cr} (fd : FuncData) (F : FunOf G.K x3 fd) : CB G fd x3.ps 0 ["beat", "y", "x", "step", "task"] [.vi 4, .vi 3, .vi 2, .vi 1, .vi 0] := cb_of F rfl fun kV doc pm an cdv ct us ws h1 h2 => match us, ws, h1, h2 with
  | [], [w0, w1, w2, w3, w4], _, _ => ⟨[w4, w3, w2, w1, w0], by kernel_rfl, (.vi rfl (.vi rfl (.vi rfl (.vi rfl (.vi rfl .nil))))), rfl⟩
theorem cb12 {G : Cr} (fd : FuncData) (F : FunOf G.K x4 fd) : CB G fd x4.ps 2 [] [.vi 0, .vi 1] := cb_of F rfl fun kV doc pm an cdv ct us ws h1 h2 => match us, ws, h1, h2 with
  | [u0, u1], [], _, _ => ⟨[u0, u1], by kernel_rfl, (.vi rfl (.vi rfl .nil)), rfl⟩
theorem cb13 {G : Cr} (fd : FuncData) (F : FunOf G.K x4 fd) : CB G fd x4.ps 0 ["step", "task"] [.vi 1, .vi 0] := cb_of F rfl fun kV doc pm an cdv ct us ws h1 h2 => match us, ws, h1, h2 with
  | [], [w0, w1], _, _ => ⟨[w1, w0], by kernel_rfl, (.vi rfl (.vi rfl .nil)), rfl⟩
theorem cb14 {G : Cr} (fd : FuncData) (F : FunOf G.K x5 fd) : CB G fd x5.ps 1 [] [.vi 0] := cb_of F rfl fun kV doc pm an cdv ct us ws h1 h2 => match us, ws, h1, h2 with
  | [u0], [], _, _ => ⟨[u0], by kernel_rfl, (.vi rfl .nil), rfl⟩
theorem cb15 {G : Cr} (fd : FuncData) (F : FunOf G.K x9 fd) : CB G fd x9.ps 1 [] [.vi 0] := cb_of F rfl fun kV doc pm an cdv ct us ws h1 h2 => match us, ws, h1, h2 with
  | [u0], [], _, _ => ⟨[u0], by kernel_rfl, (.vi rfl .nil), rfl⟩
theorem cb16 {G : Cr} (fd : FuncData) (F : FunOf G.K x11 fd) : CB G fd x11.ps 2 [] [.vi 0, .vi 1] := cb_of F rfl fun kV doc pm an cdv ct us ws h1 h2 => match us, ws, h1, h2 with
  | [u0, u1], [], _, _ => ⟨[u0, u1], by kernel_rfl, (.vi rfl (.vi rfl .nil)), rfl⟩
theorem cb17 {G : Cr} (fd : FuncData) (F : FunOf G.K x1 fd) : CB G fd x1.ps 0 ["task"] [.vi 0] := cb_of F rfl fun kV doc pm an cdv ct us ws h1 h2 => match us, ws, h1, h2 with
  | [], [w0], _, _ => ⟨[w0], by kernel_rfl, (.vi rfl .nil), rfl⟩
theorem cb18 {G : Cr} (fd : FuncData) (F : FunOf G.K x15 fd) : CB G fd x15.ps 3 [] [.vi 0, .vi 1, .vi 2] := cb_of F rfl fun kV doc pm an cdv ct us ws h1 h2 => match us, ws, h1, h2 with
  | [u0, u1, u2], [], _, _ => ⟨[u0, u1, u2], by kernel_rfl, (.vi rfl (.vi rfl (.vi rfl .nil))), rfl⟩
theorem cb19 {G : Cr} (fd : FuncData) (F : FunOf G.K x16 fd) : CB G fd x16.ps 5 [] [.vi 0, .vi 1, .vi 2, .vi 3, .vi 4] := cb_of F rfl fun kV doc pm an cdv ct us ws h1 h2 => match us, ws, h1, h2 with
  | [u0, u1, u2, u3, u4], [], _, _ => ⟨[u0, u1, u2, u3, u4], by kernel_rfl, (.vi rfl (.vi rfl (.vi rfl (.vi rfl (.vi rfl .nil))))), rfl⟩
def fa : List He.Fa := dfs.map (fun x => He.Fa.glo x.d.name) ++ [.free "len", .free "abs", .free "min", .free "max", .free "int", .free "tuple", .free "list", .free "sum", .free "any", .free "all", .free "repr", .free "range"]
def fn : List He.DefD := dfs.map (·.d)
abbrev R : PySem.W.OpenRow := PySem.W.OpenLaw.row PySem.Challenge.rw_windfleet_k06_steps_of_tasks
abbrev hk : PySem.W.Hook := hookW 4 fa fn gls
def ob (s : PySem.W.SharedT) : AlW := seeW 4 fa fn gls (HandSHeadRun.getT s)
theorem ob_eq (s : PySem.W.SharedT) : ob s = hk.obs s.abs := seeW_eq (HandSHeadRun.getT_eq s)
def loose : List Str := ["has_square", "LAST_STEPS", "last_step", "box_for", "step_by", "load_of", "_law_deck", "_law_draw", "_law_pick", "_law_bounds", "_law_fields", "_law_box", "_law_tasks", "_law_last", "_law_in", "_law_becomes", "_law_square", "_law_right"]
theorem run_false (w : World) : HandSHeadRun.RunEq R (PySem.W.view R.prog [21]) hk ob 4000 loose (w.withFollow "special-get-raises" false) := by
  intro os
  kernel_rfl
theorem run_true (w : World) : HandSHeadRun.RunEq R (PySem.W.view R.prog [21]) hk ob 4000 loose (w.withFollow "special-get-raises" true) := by
  intro os
  kernel_rfl
theorem run (w : World) : HandSHeadRun.RunEq R (PySem.W.view R.prog [21]) hk ob 4000 loose w := PySem.W.byRow2 "special-get-raises" (P := fun w => HandSHeadRun.RunEq R (PySem.W.view R.prog [21]) hk ob 4000 loose w) run_false run_true w
theorem says {w : World} {K : PySem.W.Frag} {h : Heap} {mg : Str → Option Value} (X : K.In h) (g : h.Ns mainGlobals mg) (c : SaysW fa fn gls w K) : Says ⟨K, w, clsOf K⟩ mg tb dfs (gls.map (·.2)) := by
  have sd := SaysW.d (G := ⟨K, w, clsOf K⟩) c
  have fr : ∀ (i : Nat) (x : Str), fa[i]? = some (.free x) → mg x = none := fun i x e => He.free_ok X g (sd.fact i e)
  refine ⟨rfl, looked, fun x hx => ?_, fun c hc => ?_, fun f => ?_, fr 29 "range" rfl, fun i x hx => ?_⟩
  · obtain ⟨i, hi⟩ := List.getElem?_of_mem hx
    refine ⟨sd.def_ i (d := x.d) (by show (dfs.map (·.d))[i]? = _; rw [List.getElem?_map, hi]; rfl), ?_⟩
    have hat : x.d.at_ = (x.d.name, none) := by
      have z : dfs.all (fun x => decide (x.d.at_ = (x.d.name, none))) = true := by kernel_rfl
      exact of_decide_eq_true (List.all_eq_true.mp z x hx)
    have e := He.glo_ok X g (sd.fact i (f := .glo x.d.name) (by show (dfs.map (fun x => He.Fa.glo x.d.name) ++ _)[i]? = _; rw [List.getElem?_append_left (by rw [List.length_map]; exact (List.getElem?_eq_some_iff.mp hi).1), List.getElem?_map, hi]; rfl))
    rw [hat]
    exact e
  · simp only [tb, cs, List.mem_cons, List.not_mem_nil, or_false] at hc
    rcases hc with rfl | rfl | rfl | rfl | rfl | rfl | rfl | rfl | rfl | rfl | rfl | rfl | rfl | rfl | rfl | rfl | rfl | rfl | rfl | rfl
    · exact ⟨x1, rfl, cb0⟩
    · exact ⟨x0, rfl, cb1⟩
    · exact ⟨x2, rfl, cb2⟩
    · exact ⟨x6, rfl, cb3⟩
    · exact ⟨x7, rfl, cb4⟩
    · exact ⟨x8, rfl, cb5⟩
    · exact ⟨x10, rfl, cb6⟩
    · exact ⟨x12, rfl, cb7⟩
    · exact ⟨x13, rfl, cb8⟩
    · exact ⟨x14, rfl, cb9⟩
    · exact ⟨x3, rfl, cb10⟩
    · exact ⟨x3, rfl, cb11⟩
    · exact ⟨x4, rfl, cb12⟩
    · exact ⟨x4, rfl, cb13⟩
    · exact ⟨x5, rfl, cb14⟩
    · exact ⟨x9, rfl, cb15⟩
    · exact ⟨x11, rfl, cb16⟩
    · exact ⟨x1, rfl, cb17⟩
    · exact ⟨x15, rfl, cb18⟩
    · exact ⟨x16, rfl, cb19⟩
  · cases f
    · exact fr 18 _ rfl
    · exact fr 19 _ rfl
    · exact fr 20 _ rfl
    · exact fr 21 _ rfl
    · exact fr 22 _ rfl
    · exact fr 23 _ rfl
    · exact fr 24 _ rfl
    · exact fr 25 _ rfl
    · exact fr 26 _ rfl
    · exact fr 27 _ rfl
    · exact fr 28 _ rfl
  · obtain ⟨q, e1, e2⟩ := Option.map_eq_some_iff.mp (show (gls[i]?).map (·.1) = some x by rw [← List.getElem?_map]; exact hx)
    obtain ⟨u, v, a1, a2, a3⟩ := SaysW.gl (G := ⟨K, w, clsOf K⟩) c X g (List.mem_of_getElem? e1)
    refine ⟨u, v, e2 ▸ a1, a2, fun d hd => ?_⟩
    have hd2 : (gls[i]?).map (·.2) = some d := by rw [← List.getElem?_map]; exact hd
    rw [e1] at hd2
    cases hd2
    exact a3
theorem bindL {K : PySem.W.Frag} (fd : FuncData) (F : FunOf K x17 fd) (s : Shared) (u : Value) : BindsTo s fd ⟨[u], []⟩ [("_law_script", u)] := by
  have b := FunD.bindsA (ps := ["_law_script"]) F fun _ _ _ _ _ _ us hl => match us, hl with | [_], _ => (by kernel_rfl)
  exact b s [u] rfl
theorem prg_eq : prgOf dfs (gls.map (·.2)) = prg := rfl
-- INFO {"law": 17, "lawat": 21, "nd": 18, "depth": 5}
end K06h
set_option Elab.async false
set_option linter.all false
set_option maxRecDepth 100000
set_option maxHeartbeats 4000000
namespace K06h
open PySem PySem.W PySem.Calls PyProof.Rows
theorem e1 : OpenLaw.most PySem.Challenge.rw_windfleet_k06_steps_of_tasks = some 63 := rfl
theorem e2 : 63 ≤ sizeLine := by decide
theorem e3 : (HandSHeadRun.topDef R.prog 21).params.defaults = [] := by kernel_rfl
theorem e4 : L2.Room 5 callerA := ⟨rfl, by decide, by decide⟩
theorem e5 : dfs[17]? = some x17 := rfl
theorem e6 : x17.ps = [("_law_script" : PySem.Str)] := rfl
theorem e7 : x17.d.name = (HandSHeadRun.topDef R.prog 21).name := by kernel_rfl
theorem walk : PySem.W.WalkO (view R.prog [21]) loose (XL (view R.prog [21]) []) hk.says (OpenLaw.row PySem.Challenge.rw_windfleet_k06_steps_of_tasks).toRowW (HandSHeadRun.topDef R.prog 21) [] (fun f vs => PySem.call f vs) := by
  refine Wf.walkG (i := 17) e1 e2 e3 e4 e5 e6 e7 ?F K06.plain
  intro w mg h Y G
  obtain ⟨K, KX, c⟩ := Y
  exact ⟨⟨K, w, clsOf K⟩, tb, rfl, KX, says KX G c, fun fd F s u => bindL fd F s u⟩
end K06h
open PySem PySem.W PySem.Calls PyProof.Rows
theorem PySem.Challenge.cw_windfleet_k06_steps_of_tasks_holds : PySem.Challenge.rw_windfleet_k06_steps_of_tasks.Holds := by
  w_on; o_law
  refine HandSHeadRun.head_any (r := K06h.R) (q := view K06h.R.prog [21]) (H := K06h.hk) (ob := K06h.ob) (M := 4000) (loose := K06h.loose) (d := HandSHeadRun.topDef K06h.R.prog 21) (kwd := []) K06h.ob_eq
    (by kernel_rfl) (fun s => by kernel_rfl) K06h.run (by kernel_rfl) (by kernel_rfl) (by kernel_rfl) (by rfl) (by first | assumption | decide +kernel) (by decide +kernel) ⟨rfl, rfl, rfl, rfl, rfl, by decide +kernel⟩ ?hw ?hc
  case hw => w_witness2
  case hc => exact K06h.walk
