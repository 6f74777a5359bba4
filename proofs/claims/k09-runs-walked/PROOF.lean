import PyProof.Rows.All
import Wide.All
import OpenK.AllK
import Wide.FinOn
import HandS.ForMost
import HandS.TupMul
import HandS.TupAny
import HandS.Style
import HandS.Flow
import HandS.More
import HandS.Flt
import HandS.IsInst
import HandS.Deep
import KE.KUnpackStar
import HandS.Defaults
import KE.GoesEnum
import HandS.Iter
import KE.GoesMore
import KE.GoesEnumKw
import HandS.Sort
import HandS.Conv
import HandS.SetFor
import HandS.Strs
import HandS.HeadEnd
import HandS.HeadHook3
import HandS.Head0
import HandS.Head1
import HandS.Head2
import KE.KStateDown
import PyProof.ReprLen
import PySem.Challenge.RW_windfleet_k09_runs_walked
set_option Elab.async false
set_option linter.all false
/-! Own values, own trees, an evaluator. -/
namespace Wf
open PySem L2

inductive D where
  | non | bl (b : Bool) | int (i : Int) | str (x : Str)
  | tup (xs : List D) | lst (xs : List D) | dct (kvs : List (Key × D)) | ref (i : Nat) | scr (ns : List Int) | kdc (kvs : List (Str × D))

mutual
def D.pd : D → Option PyData
  | .non => some .none
  | .bl b => some (.bool b)
  | .int i => some (.int i)
  | .str x => some (.str x)
  | .tup xs => (pdAll xs).map .tuple
  | .lst xs => (pdAll xs).map .list
  | .dct _ => none
  | .ref _ => none
  | .scr _ => none
  | .kdc _ => none
def pdAll : List D → Option (List PyData)
  | [] => some []
  | d :: ds => match d.pd, pdAll ds with
    | some p, some ps => some (p :: ps)
    | _, _ => none
end

/-! what may be shown and not compared: with empty dicts, without lists -/
mutual
def D.sd : D → Option PyData
  | .non => some .none
  | .bl b => some (.bool b)
  | .int i => some (.int i)
  | .str x => some (.str x)
  | .tup xs => (sdAll xs).map .tuple
  | .dct [] => some (.dict [])
  | _ => none
def sdAll : List D → Option (List PyData)
  | [] => some []
  | d :: ds => match d.sd, sdAll ds with
    | some p, some ps => some (p :: ps)
    | _, _ => none
end

inductive Ob where
  | lst (xs : List D) | dct (kvs : List (Key × D)) | ins (c : Nat) (fs : List (Str × D))
abbrev Sto := List Ob

/-- what a store's object is worth as a value, looked at and not kept -/
def top (S : Sto) : D → D
  | .ref i => match S[i]? with
    | some (.lst xs) => .lst xs
    | some (.dct kvs) => .dct kvs
    | _ => .ref i
  | d => d

/-! ### operations -/
def semBin : Operator → D → D → Option D
  | .Add, .int i, .int j => some (.int (i + j))
  | .Add, .tup xs, .tup ys => if xs.length + ys.length ≤ sizeLine then some (.tup (xs ++ ys)) else none
  | .Add, .lst xs, .lst ys => if xs.length + ys.length ≤ sizeLine then some (.lst (xs ++ ys)) else none
  | .Sub, .int i, .int j => some (.int (i - j))
  | .Mult, .int i, .int j => if (-(2 ^ 64) < i ∧ i < 2 ^ 64) ∨ (-(2 ^ 64) < j ∧ j < 2 ^ 64) then some (.int (i * j)) else none
  | .Mult, .lst xs, .int k => if 0 ≤ k ∧ k < 2 ^ 63 ∧ xs.length * k.toNat ≤ sizeLine then some (.lst (List.replicate k.toNat xs).flatten) else none
  | .Mult, .tup xs, .int k => if xs.isEmpty = false ∧ 2 ≤ k ∧ k ≤ 1000 ∧ xs.length ≤ 1000 then some (.tup (List.replicate k.toNat xs).flatten) else none
  | .FloorDiv, .int i, .int j => if 0 < j ∧ j < 1073741824 then some (.int (i / j)) else none
  | .Mod, .int i, .int j => if 0 < j then some (.int (i % j)) else none
  | .Pow, .int i, .int j => if 0 ≤ j ∧ j ≤ 1000000 ∧ i.natAbs < 2 ^ 64 then some (.int (i ^ j.toNat)) else none
  | _, _, _ => none

def semEq (a b : D) : Option Bool :=
  match a.pd, b.pd with
  | some p, some q => if SeqAt.shaped p && SeqAt.shaped q then some (PyData.eqv p q) else none
  | _, _ => none

/-- x in a list or tuple -/
def semIn (a b : D) : Option Bool :=
  match a.pd, b.pd with
  | some p, some q => (match q with
    | .list ps => if SeqAt.shaped p && SeqAt.shaped (.list ps) then some (ps.any fun z => PyData.eqv z p) else none
    | .tuple ps => if SeqAt.shaped p && SeqAt.shaped (.tuple ps) then some (ps.any fun z => PyData.eqv z p) else none
    | _ => none)
  | _, _ => none
def isNon : D → Bool
  | .non => true
  | _ => false

def keyOf : D → Option Key
  | .int i => some (.inl i)
  | .str x => some (.inr x)
  | _ => none
def look (kvs : List (Key × D)) (k : Key) : Option D := (kvs.find? fun kv => decide (kv.1 = k)).map (·.2)
def put (kvs : List (Key × D)) (k : Key) (v : D) : List (Key × D) :=
  if kvs.any fun kv => decide (kv.1 = k) then kvs.map fun kv => if kv.1 = k then (kv.1, v) else kv else kvs ++ [(k, v)]

def semCmp : CmpOp → D → D → Option Bool
  | .Lt, .int i, .int j => some (decide (i < j))
  | .LtE, .int i, .int j => some (decide (i ≤ j))
  | .Gt, .int i, .int j => some (decide (j < i))
  | .GtE, .int i, .int j => some (decide (j ≤ i))
  | .Eq, .int i, .int j => some (decide (i = j))
  | .NotEq, .int i, .int j => some (!decide (i = j))
  | .Eq, .str x, .str y => some (decide (x = y))
  | .NotEq, .str x, .str y => some (!decide (x = y))
  | .Eq, a, b => semEq a b
  | .NotEq, a, b => (semEq a b).map (!·)
  | .Is, a, .non => some (isNon a)
  | .IsNot, a, .non => some (!isNon a)
  | .In, a, b => semIn a b
  | .NotIn, a, b => (semIn a b).map (!·)
  | _, _, _ => none

def semIx : D → D → Option D
  | .lst xs, .int i => atI xs i
  | .tup xs, .int i => atI xs i
  | .dct kvs, k => match keyOf k with
    | some k => look kvs k
    | none => none
  | .kdc kvs, .str x => kvs.lookup x
  | _, _ => none

def intsOf : List D → Option (List Int)
  | [] => some []
  | .int i :: r => (intsOf r).map (i :: ·)
  | _ => none
def boolsOf : List D → Option (List Bool)
  | [] => some []
  | .bl b :: r => (boolsOf r).map (b :: ·)
  | _ => none

/-- built-in functions and types by their names: values in (looked at), a value out -/
inductive Bi where
  | len | abs | min | max | int | tuple | list | sum | any | all | repr | bool
  deriving DecidableEq
def semBi : Bi → List D → Option D
  | .len, [.lst xs] => some (.int xs.length)
  | .len, [.tup xs] => some (.int xs.length)
  | .abs, [.int i] => some (.int (if i < 0 then -i else i))
  | .min, [.int i, .int j] => some (.int (if j < i then j else i))
  | .max, [.int i, .int j] => some (.int (if j > i then j else i))
  | .min, [.int i, .int j, .int k] => some (.int (if k < (if j < i then j else i) then k else (if j < i then j else i)))
  | .max, [.int i, .int j, .int k] => some (.int (if k > (if j > i then j else i) then k else (if j > i then j else i)))
  | .int, [.bl b] => some (.int (if b then 1 else 0))
  | .int, [.int i] => some (.int i)
  | .tuple, [.lst xs] => some (.tup xs)
  | .tuple, [.tup xs] => some (.tup xs)
  | .list, [.lst xs] => some (.lst xs)
  | .list, [.tup xs] => some (.lst xs)
  | .sum, [.lst xs] => (intsOf xs).map fun ns => .int ns.sum
  | .any, [.lst xs] => (boolsOf xs).map fun bs => .bl (bs.any id)
  | .all, [.lst xs] => (boolsOf xs).map fun bs => .bl (bs.all id)
  | .bool, [.int i] => some (.bl (i != 0))
  | .bool, [.bl k] => some (.bl k)
  | .repr, [d] => match d.pd with
    | some p => if p.showable && decide (p.shown.length ≤ sizeLine) && decide (p.depth ≤ 64) then some (.str p.shown) else none
    | none => match d.sd with
      | some p => if p.showable && decide (p.shown.length ≤ sizeLine) && decide (p.depth ≤ 64) then some (.str p.shown) else none
      | none => none
  | _, _ => none

def cutD (xs : List D) (lo hi : Option Int) : List D := (xs.drop (HT.sIx xs.length 0 lo)).take (HT.sIx xs.length xs.length hi - HT.sIx xs.length 0 lo)
def semCut : D → Option Int → Option Int → Option D
  | .lst xs, lo, hi => some (.lst (cutD xs lo hi))
  | .scr ns, lo, hi => some (.lst (cutD (ns.map .int) lo hi))
  | .tup xs, lo, hi => some (.tup (cutD xs lo hi))
  | _, _, _ => none

/-! ### trees -/
mutual
inductive T where
  | nm (i : Nat) | tp (ts : Ts)
  | st (ts : Ts) (i : Nat)
inductive Ts where
  | nil | cons (t : T) (ts : Ts)
end
inductive Ag where
  | vi (k : Nat) | dv (d : D)
/-- built-in types, as isinstance asks for them -/
inductive Ty where
  | int | bool | str | tuple | list | dict
  deriving DecidableEq
def semIsi : Ty → D → Option Bool
  | t, .non => some false
  | t, .bl _ => some (decide (t = .bool ∨ t = .int))
  | t, .int _ => some (decide (t = .int))
  | t, .str _ => some (decide (t = .str))
  | t, .tup _ => some (decide (t = .tuple))
  | t, .lst _ => some (decide (t = .list))
  | t, .dct _ => some (decide (t = .dict))
  | _, _ => none

mutual
inductive E where
  | k (d : D) | v (i : Nat) | gl (d : D)
  | bin (op : Operator) (a b : E) | cmp (op : CmpOp) (a b : P) | chn (o1 o2 : CmpOp) (a b c : E)
  | neg (a : E) | nt (a : E) | and_ (a b : E) | or_ (a b : E) | ite (c a b : E)
  | sub (a : P) (i : E) | cut (a : P) (lo hi : Oe) | rev (a : P)
  | tup (es : Es) | lst (es : Es) | dsp (ps : Ps)
  | bi (f : Bi) (es : Qs)
  | call (f : Nat) (es ks : Es) (perm : List Ag)
  | lc (own : List Nat) (t : T) (it : It) (c : Oe) (elt : E)
  | box (a : E)
  | pop (a : E) | app (a b : E)
  | att (c : Nat) (a : E) (f : Str)
  | mk (c f : Nat) (es ks : Es) (perm : List Ag)
  | meth (c f : Nat) (m : Str) (a : E) (es ks : Es) (perm : List Ag)
  | isi (a : P) (t : Ty)
  | ch3 (o1 o2 o3 : CmpOp) (a b c d : E)
  | lc2 (own own1 : List Nat) (t : T) (it : It) (c : Oe) (t1 : T) (it1 : It) (c1 : Oe) (elt : E)
  | lrg (a b : E)
  | srs (a : E)
  | lcp (own : List Nat) (t : T) (i : Nat) (c : Oe) (elt : E)
  | bad
inductive P where
  | e (e : E) | pk (i : Nat)
inductive Qs where
  | nil | cons (p : P) (ps : Qs)
inductive Oe where
  | none | some (e : E)
inductive Es where
  | nil | cons (e : E) (es : Es)
inductive Ps where
  | nil | cons (k v : E) (ps : Ps)
inductive It where
  | seq (e : E) | rng1 (a : E) | rng2 (a b : E) | enm (e : E) | zps (a b : E)
end
/-- what is stored by one statement: kept values, owned things -/
inductive Ms where
  | nil | cons (own : Bool) (i : Nat) (e : E) (ms : Ms)

mutual
inductive Sx where
  | asg (t : T) (e : E) | own (i : Nat) (e : E) | put (o i e : E) | pst (i : Nat) (k e : E)
  | ex (e : E) | ret (e : E) | iff (c : E) (a b : Ss) | fr (t : T) (it : It) (b : Ss) | apS (i : Nat) (e : E) | frz (i : Nat)
  | sat (c : Nat) (o : E) (f : Str) (e : E) | par (ms : Ms) | bad
  | asa (c i : Nat) (o : E) (f : Str) (e : E) | aug (c : Nat) (o : E) (f : Str) (e : E) | xtS (i : Nat) (e : E)
inductive Ss where
  | nil | cons (s : Sx) (ss : Ss)
end

/-! ### the environment -/
inductive Sl where
  | un | fz (d : D) | ol (xs : List D) | od (kvs : List (Key × D))
abbrev Env := List Sl
def getS (env : Env) (i : Nat) : Option D := match env[i]? with
  | some (.fz d) => some d
  | _ => none
/-- what is looked at and not kept -/
def peekS (env : Env) (i : Nat) : Option D := match env[i]? with
  | some (.fz d) => some d
  | some (.ol xs) => some (.lst xs)
  | some (.od kvs) => some (.dct kvs)
  | _ => none
def setS (env : Env) (i : Nat) (d : D) : Env := env.set i (.fz d)

def seqD : D → Option (List D)
  | .tup xs => some xs
  | .lst xs => some xs
  | _ => none
def Ts.len : Ts → Nat
  | .nil => 0
  | .cons _ ts => ts.len + 1
/-- with a star at place i of n -/
def starD (xs : List D) (n i : Nat) : List D := xs.take i ++ [.lst ((xs.drop i).take (xs.length + 1 - n))] ++ (xs.drop i).drop (xs.length + 1 - n)
mutual
def T.sl : T → List Nat
  | .nm i => [i]
  | .tp ts => ts.sl
  | .st ts _ => ts.sl
def Ts.sl : Ts → List Nat
  | .nil => []
  | .cons t ts => t.sl ++ ts.sl
end
mutual
def asgT : T → D → Env → Option Env
  | .nm i, d, env => some (setS env i d)
  | .tp ts, d, env => (seqD d).bind fun xs => asgTs ts xs env
  | .st ts i, d, env => (seqD d).bind fun xs => if i < ts.len ∧ ts.len ≤ xs.length + 1 then asgTs ts (starD xs ts.len i) env else none
def asgTs : Ts → List D → Env → Option Env
  | .nil, [], env => some env
  | .cons t ts, d :: ds, env => (asgT t d env).bind (asgTs ts ds)
  | _, _, _ => none
end

def permA (vs : List D) : List Ag → Option (List D)
  | [] => some []
  | .vi k :: r => match vs[k]?, permA vs r with
    | some d, some ds => some (d :: ds)
    | _, _ => none
  | .dv d :: r => (permA vs r).map (d :: ·)

structure Orc where
  call : Nat → List D → Sto → Option (D × Sto)

def bl? : D → Option Bool
  | .bl b => some b
  | _ => none
def int? : D → Option Int
  | .int i => some i
  | _ => none
def wipeS (env : Env) : List Nat → Env
  | [] => env
  | v :: vs => (wipeS env vs).set v .un
def rangeD (lo hi : Int) : List D := (List.range (hi - lo).toNat).map fun (k : Nat) => .int (lo + (k : Int))
def small62 (i : Int) : Bool := decide (-(2 ^ 62) ≤ i) && decide (i < 2 ^ 62)

/-- a list of the store -/
def refL : D → Sto → Option (Nat × List D)
  | .ref i, S => match S[i]? with
    | some (.lst xs) => some (i, xs)
    | _ => none
  | _, _ => none
theorem refL_of {d : D} {S : Sto} {r : Nat × List D} (h : refL d S = some r) : d = .ref r.1 ∧ S[r.1]? = some (.lst r.2) := by
  unfold refL at h
  split at h
  · split at h
    · rename_i q
      cases h
      exact ⟨rfl, q⟩
    · cases h
  · cases h
/-- an instance of the store -/
def refI (c : Nat) : D → Sto → Option (Nat × List (Str × D))
  | .ref i, S => match S[i]? with
    | some (.ins c' fs) => if c' = c then some (i, fs) else none
    | _ => none
  | _, _ => none
theorem refI_of {c : Nat} {d : D} {S : Sto} {r : Nat × List (Str × D)} (h : refI c d S = some r) : d = .ref r.1 ∧ S[r.1]? = some (.ins c r.2) := by
  unfold refI at h
  split at h
  · split at h
    · rename_i q
      split at h
      · rename_i e
        cases h
        rw [← e]
        exact ⟨rfl, q⟩
      · cases h
    · cases h
  · cases h
def putD (f : Str) (v : D) : List (Str × D) → List (Str × D)
  | [] => [(f, v)]
  | (g, x) :: r => if g = f then (g, v) :: r else (g, x) :: putD f v r
def enumD : Nat → List D → List D
  | _, [] => []
  | k, d :: ds => .tup [.int (k : Int), d] :: enumD (k + 1) ds
def zipD : List D → List D → List D
  | x :: xs, y :: ys => .tup [x, y] :: zipD xs ys
  | _, _ => []
/-- one item of a comprehension behind another -/
def lcGo (f : D → Sto → Option (Option D × Sto)) : List D → List D → Sto → Option (List D × Sto)
  | [], acc, S => some (acc, S)
  | d :: ds, acc, S => match f d S with
    | some (some x, S1) => if acc.length < sizeLine then lcGo f ds (acc ++ [x]) S1 else none
    | some (none, S1) => lcGo f ds acc S1
    | none => none

/-- many items of each -/
def lcAll (f : D → List D → Sto → Option (List D × Sto)) : List D → List D → Sto → Option (List D × Sto)
  | [], acc, S => some (acc, S)
  | d :: ds, acc, S => match f d acc S with
    | some (acc', S1) => lcAll f ds acc' S1
    | none => none

/-- whole numbers rising, each once -/
def insI (k : Int) : List Int → List Int
  | [] => [k]
  | x :: r => if k < x then k :: x :: r else if k = x then x :: r else x :: insI k r
def srtI : List Int → List Int
  | [] => []
  | k :: r => insI k (srtI r)
mutual
def evE (C : Orc) : E → Env → Sto → Option (D × Sto)
  | .k d, _, S => some (d, S)
  | .v i, env, S => (getS env i).map (·, S)
  | .gl d, _, S => some (d, S)
  | .bin op a b, env, S => (evE C a env S).bind fun p => (evE C b env p.2).bind fun q => (semBin op (top q.2 p.1) (top q.2 q.1)).map (·, q.2)
  | .cmp op a b, env, S => (evP C a env S).bind fun p => (evP C b env p.2).bind fun q => (semCmp op (top q.2 p.1) (top q.2 q.1)).map (.bl ·, q.2)
  | .chn o1 o2 a b c, env, S => (evE C a env S).bind fun p => (evE C b env p.2).bind fun q => (semCmp o1 (top q.2 p.1) (top q.2 q.1)).bind fun k =>
      if k then (evE C c env q.2).bind fun r => (semCmp o2 (top r.2 q.1) (top r.2 r.1)).map (.bl ·, r.2) else some (.bl false, q.2)
  | .neg a, env, S => (evE C a env S).bind fun p => (int? p.1).map fun i => (.int (-i), p.2)
  | .nt a, env, S => (evE C a env S).bind fun p => (bl? p.1).map fun b => (.bl (!b), p.2)
  | .and_ a b, env, S => (evE C a env S).bind fun p => (bl? p.1).bind fun k => if k then evE C b env p.2 else some (.bl false, p.2)
  | .or_ a b, env, S => (evE C a env S).bind fun p => (bl? p.1).bind fun k => if k then some (.bl true, p.2) else evE C b env p.2
  | .ite c a b, env, S => (evE C c env S).bind fun p => (bl? p.1).bind fun k => if k then evE C a env p.2 else evE C b env p.2
  | .sub a i, env, S => (evP C a env S).bind fun p => (evE C i env p.2).bind fun q => (semIx (top q.2 p.1) q.1).map (·, q.2)
  | .cut a lo hi, env, S => (evP C a env S).bind fun p => (evO C lo env p.2).bind fun q => (evO C hi env q.2).bind fun r => (semCut (top r.2 p.1) q.1 r.1).map (·, r.2)
  | .rev a, env, S => (evP C a env S).bind fun p => match top p.2 p.1 with
      | .lst xs => some (.lst xs.reverse, p.2)
      | _ => none
  | .tup es, env, S => (evEs C es env S).bind fun p => if p.1.length ≤ sizeLine then some (.tup p.1, p.2) else none
  | .lst es, env, S => (evEs C es env S).bind fun p => if p.1.length ≤ sizeLine then some (.lst p.1, p.2) else none
  | .dsp ps, env, S => (evPs C ps env S).bind fun p => if p.1.length ≤ 15 then some (.dct (p.1.foldl (fun acc kv => put acc kv.1 kv.2) []), p.2) else none
  | .bi f es, env, S => (evQs C es env S).bind fun p => (semBi f (p.1.map (top p.2))).map (·, p.2)
  | .call f es ks perm, env, S => (evEs C es env S).bind fun p => (evEs C ks env p.2).bind fun q => (permA (p.1 ++ q.1) perm).bind fun ds => C.call f ds q.2
  | .lc own t it c elt, env, S => (evI C it env S).bind fun p =>
      (lcGo (fun d S => (asgT t d (wipeS env own)).bind fun env' => (evC C c env' S).bind fun q => if q.1 then (evE C elt env' q.2).map fun r => (some r.1, r.2) else some (none, q.2)) p.1 [] p.2).map fun r => (.lst r.1, r.2)
  | .box a, env, S => (evE C a env S).bind fun p => match p.1 with
      | .lst xs => some (.ref p.2.length, p.2 ++ [.lst xs])
      | .dct kvs => some (.ref p.2.length, p.2 ++ [.dct kvs])
      | _ => none
  | .pop a, env, S => (evE C a env S).bind fun p => (refL p.1 p.2).bind fun r => (r.2[r.2.length - 1]?).map fun y => (y, p.2.set r.1 (.lst r.2.dropLast))
  | .app a b, env, S => (evE C a env S).bind fun p => (refL p.1 p.2).bind fun _ => (evE C b env p.2).bind fun q => (refL p.1 q.2).bind fun r =>
      if r.2.length < sizeLine then some (.non, q.2.set r.1 (.lst (r.2 ++ [q.1]))) else none
  | .att c a f, env, S => (evE C a env S).bind fun p => (refI c p.1 p.2).bind fun r => (r.2.lookup f).map (·, p.2)
  | .mk c f es ks perm, env, S => (evEs C es env S).bind fun p => (evEs C ks env p.2).bind fun q => (permA (.ref q.2.length :: (p.1 ++ q.1)) perm).bind fun ds => (C.call f ds (q.2 ++ [.ins c []])).bind fun r =>
      match r.1 with
      | .non => some (.ref q.2.length, r.2)
      | _ => none
  | .meth c f m a es ks perm, env, S => (evE C a env S).bind fun o => (refI c o.1 o.2).bind fun i => match i.2.lookup m with
      | none => (evEs C es env o.2).bind fun p => (evEs C ks env p.2).bind fun q => (permA (o.1 :: (p.1 ++ q.1)) perm).bind fun ds => C.call f ds q.2
      | some _ => none
  | .isi a t, env, S => (evP C a env S).bind fun p => (semIsi t (top p.2 p.1)).map (.bl ·, p.2)
  | .ch3 o1 o2 o3 a b c d, env, S => (evE C a env S).bind fun p => (evE C b env p.2).bind fun q => (semCmp o1 (top q.2 p.1) (top q.2 q.1)).bind fun k =>
      if k then (evE C c env q.2).bind fun r => (semCmp o2 (top r.2 q.1) (top r.2 r.1)).bind fun k =>
        if k then (evE C d env r.2).bind fun s => (semCmp o3 (top s.2 r.1) (top s.2 s.1)).map (.bl ·, s.2) else some (.bl false, r.2)
      else some (.bl false, q.2)
  | .lc2 own own1 t it c t1 it1 c1 elt, env, S => (evI C it env S).bind fun p =>
      (lcAll (fun d acc S => (asgT t d (wipeS env own)).bind fun env' => (evC C c env' S).bind fun q => if q.1 then (evI C it1 env' q.2).bind fun p1 =>
          lcGo (fun d S => (asgT t1 d (wipeS env' own1)).bind fun env2 => (evC C c1 env2 S).bind fun q => if q.1 then (evE C elt env2 q.2).map fun r => (some r.1, r.2) else some (none, q.2)) p1.1 acc p1.2
        else some (acc, q.2)) p.1 [] p.2).map fun r => (.lst r.1, r.2)
  | .lrg a b, env, S => (evE C a env S).bind fun p => (evE C b env p.2).bind fun q => (int? p.1).bind fun i => (int? q.1).bind fun j => if small62 i && small62 j && decide (j - i ≤ 1000000) then some (.lst (rangeD i j), q.2) else none
  | .lcp own t i c elt, env, S => match peekS env i with
      | some (.lst xs) => (lcGo (fun d S => (asgT t d (wipeS env own)).bind fun env' => (evC C c env' S).bind fun q => if q.1 then (evE C elt env' q.2).map fun r => (some r.1, r.2) else some (none, q.2)) xs [] S).map fun r => (.lst r.1, r.2)
      | _ => none
  | .srs a, env, S => (evE C a env S).bind fun p => match p.1 with
      | .lst xs => (intsOf xs).bind fun ns => if ns.length ≤ 60 then some (.lst ((srtI ns).map .int), p.2) else none
      | _ => none
  | .bad, _, _ => none
/-- looked at -/
def evP (C : Orc) : P → Env → Sto → Option (D × Sto)
  | .pk i, env, S => (peekS env i).map (·, S)
  | .e e, env, S => evE C e env S
def evO (C : Orc) : Oe → Env → Sto → Option (Option Int × Sto)
  | .none, _, S => some (none, S)
  | .some e, env, S => (evE C e env S).bind fun p => (int? p.1).map fun i => (some i, p.2)
def evC (C : Orc) : Oe → Env → Sto → Option (Bool × Sto)
  | .none, _, S => some (true, S)
  | .some e, env, S => (evE C e env S).bind fun p => (bl? p.1).map fun b => (b, p.2)
def evEs (C : Orc) : Es → Env → Sto → Option (List D × Sto)
  | .nil, _, S => some ([], S)
  | .cons e es, env, S => (evE C e env S).bind fun p => (evEs C es env p.2).map fun q => (p.1 :: q.1, q.2)
def evQs (C : Orc) : Qs → Env → Sto → Option (List D × Sto)
  | .nil, _, S => some ([], S)
  | .cons e es, env, S => (evP C e env S).bind fun p => (evQs C es env p.2).map fun q => (p.1 :: q.1, q.2)
def evPs (C : Orc) : Ps → Env → Sto → Option (List (Key × D) × Sto)
  | .nil, _, S => some ([], S)
  | .cons k v ps, env, S => (evE C k env S).bind fun p => (keyOf p.1).bind fun k => (evE C v env p.2).bind fun q => (evPs C ps env q.2).map fun r => ((k, q.1) :: r.1, r.2)
def evI (C : Orc) : It → Env → Sto → Option (List D × Sto)
  | .seq e, env, S => (evE C e env S).bind fun p => match p.1 with
      | .lst xs => some (xs, p.2)
      | .tup xs => some (xs, p.2)
      | _ => none
  | .enm e, env, S => (evE C e env S).bind fun p => match p.1 with
      | .lst xs => some (enumD 0 xs, p.2)
      | .tup xs => some (enumD 0 xs, p.2)
      | _ => none
  | .zps a b, env, S => (evE C a env S).bind fun p => (evE C b env p.2).bind fun q => (seqD p.1).bind fun xs => (seqD q.1).bind fun ys => if xs.length = ys.length then some (zipD xs ys, q.2) else none
  | .rng1 a, env, S => (evE C a env S).bind fun p => (int? p.1).bind fun i => if small62 i then some (rangeD 0 i, p.2) else none
  | .rng2 a b, env, S => (evE C a env S).bind fun p => (evE C b env p.2).bind fun q => (int? p.1).bind fun i => (int? q.1).bind fun j => if small62 i && small62 j then some (rangeD i j, q.2) else none
end
end Wf
namespace Wf
open PySem L2
/-! ### statements -/
inductive Fl where
  | nx (env : Env) (S : Sto) | rt (d : D) (S : Sto)

def frGo (f : D → Env → Sto → Option Fl) : List D → Env → Sto → Option Fl
  | [], env, S => some (.nx env S)
  | d :: ds, env, S => match f d env S with
    | some (.nx env' S') => frGo f ds env' S'
    | r => r

def putAt (ob : Ob) (k v : D) : Option Ob := match ob, k with
  | .lst xs, .int i => (ixN xs.length i).map fun j => .lst (xs.set j v)
  | .dct kvs, k => (keyOf k).bind fun k => if kvs.length < sizeLine then some (.dct (put kvs k v)) else none
  | _, _ => none

def ownS : D → Option Sl
  | .lst xs => some (.ol xs)
  | .dct kvs => some (.od kvs)
  | _ => none
def evMs (C : Orc) : Ms → Env → Sto → Option (List (Nat × Sl) × Sto)
  | .nil, _, S => some ([], S)
  | .cons own i e ms, env, S => (evE C e env S).bind fun p => (if own then ownS p.1 else some (.fz p.1)).bind fun x => (evMs C ms env p.2).map fun q => ((i, x) :: q.1, q.2)
def setAll : List (Nat × Sl) → Env → Env
  | [], env => env
  | (i, x) :: r, env => setAll r (env.set i x)

/-- two values of a tuple -/
def pairD : D → Option (D × D)
  | .tup [x, y] => some (x, y)
  | _ => none
def addI : D → D → Option D
  | .int i, .int j => some (.int (i + j))
  | _, _ => none
mutual
def evS (C : Orc) : Sx → Env → Sto → Option Fl
  | .asg t e, env, S => (evE C e env S).bind fun p => (asgT t p.1 env).map (.nx · p.2)
  | .own i e, env, S => (evE C e env S).bind fun p => match p.1 with
      | .lst xs => some (.nx (env.set i (.ol xs)) p.2)
      | .dct kvs => some (.nx (env.set i (.od kvs)) p.2)
      | _ => none
  | .put o i e, env, S => (evE C e env S).bind fun p => (evE C o env p.2).bind fun q => (evE C i env q.2).bind fun r => match q.1 with
      | .ref a => (r.2[a]?).bind fun ob => (putAt ob r.1 p.1).map fun ob' => .nx env (r.2.set a ob')
      | _ => none
  | .pst i k e, env, S => (evE C e env S).bind fun p => (evE C k env p.2).bind fun r => match env[i]? with
      | some (.od kvs) => (keyOf r.1).bind fun k => if kvs.length < sizeLine then some (.nx (env.set i (.od (put kvs k p.1))) r.2) else none
      | some (.ol xs) => match r.1 with
        | .int j => (ixN xs.length j).map fun j => .nx (env.set i (.ol (xs.set j p.1))) r.2
        | _ => none
      | _ => none
  | .ex e, env, S => (evE C e env S).map fun p => .nx env p.2
  | .ret e, env, S => (evE C e env S).map fun p => .rt p.1 p.2
  | .iff c a b, env, S => (evE C c env S).bind fun p => (bl? p.1).bind fun k => if k then evSs C a env p.2 else evSs C b env p.2
  | .fr t it b, env, S => (evI C it env S).bind fun p => frGo (fun d env S => (asgT t d env).bind fun env' => evSs C b env' S) p.1 env p.2
  | .apS i e, env, S => (evE C e env S).bind fun p => match env[i]? with
      | some (.ol xs) => if xs.length < sizeLine then some (.nx (env.set i (.ol (xs ++ [p.1]))) p.2) else none
      | _ => none
  | .frz i, env, S => match env[i]? with
      | some (.ol xs) => some (.nx (env.set i (.fz (.lst xs))) S)
      | some (.od kvs) => some (.nx (env.set i (.fz (.dct kvs))) S)
      | _ => none
  | .sat c o f e, env, S => (evE C e env S).bind fun p => (evE C o env p.2).bind fun q => (refI c q.1 q.2).bind fun r => if r.2.length < 1000 then some (.nx env (q.2.set r.1 (.ins c (putD f p.1 r.2)))) else none
  | .par ms, env, S => (evMs C ms env S).map fun p => .nx (setAll p.1 env) p.2
  | .bad, _, _ => none
  | .asa c i o f e, env, S => (evE C e env S).bind fun p => (pairD p.1).bind fun xy => (evE C o (setS env i xy.1) p.2).bind fun q => (refI c q.1 q.2).bind fun r =>
      if r.2.length < 1000 then some (.nx (setS env i xy.1) (q.2.set r.1 (.ins c (putD f xy.2 r.2)))) else none
  | .aug c o f e, env, S => (evE C o env S).bind fun p => (refI c p.1 p.2).bind fun r => (r.2.lookup f).bind fun u => (evE C e env p.2).bind fun q => (addI u q.1).bind fun z => (refI c (.ref r.1) q.2).bind fun r2 =>
      if r2.2.length < 1000 then some (.nx env (q.2.set r2.1 (.ins c (putD f z r2.2)))) else none
  | .xtS i e, env, S => (evE C e env S).bind fun p => match env[i]?, p.1 with
      | some (.ol xs), .lst ys => if xs.length + ys.length ≤ sizeLine then some (.nx (env.set i (.ol (xs ++ ys))) p.2) else none
      | _, _ => none
def evSs (C : Orc) : Ss → Env → Sto → Option Fl
  | .nil, env, S => some (.nx env S)
  | .cons s ss, env, S => match evS C s env S with
    | some (.nx env' S') => evSs C ss env' S'
    | r => r
end

/-- a def: how many slots, its body -/
structure Fn where
  ar : Nat
  n : Nat
  body : Ss
def runFn (C : Orc) (f : Fn) (ds : List D) (S : Sto) : Option (D × Sto) :=
  match evSs C f.body (ds.map .fz ++ List.replicate (f.n - ds.length) .un) S with
  | some (.rt d S') => some (d, S')
  | some (.nx _ S') => some (.non, S')
  | none => none
/-- calls, so and so deep -/
structure Prg where
  fs : List (Nat × Fn)
def callN (P : Prg) : Nat → Nat → List D → Sto → Option (D × Sto)
  | 0, _, _, _ => none
  | n + 1, i, ds, S => match P.fs.lookup i with
    | some f => if f.ar = ds.length then runFn ⟨callN P n⟩ f ds S else none
    | none => none
def orc (P : Prg) (n : Nat) : Orc := ⟨callN P n⟩
end Wf
set_option Elab.async false
set_option linter.all false
namespace Wf
open PySem L2

def FzL (H : Hp) (ρ B : List Addr) (a : Addr) (vs : List V) : Prop := H a = some (.lst vs) ∧ a ∉ ρ ∧ a ∉ B
def FzD (H : Hp) (ρ B : List Addr) (a : Addr) (kvs : List (Key × V)) : Prop := H a = some (.dK kvs) ∧ a ∉ ρ ∧ a ∉ B
def Scr (K : PySem.W.Frag) (H : Hp) (a : Addr) (vs : List V) : Prop :=
  (∃ o, H a = some (.frz o (.lst vs))) ∨
    ∃ (o : Obj) (its : Array Value) (n : Nat), K.lookup a = some o ∧ o.cls = .type "list" ∧ o.dict = none ∧ o.data = .seq its n ∧ its.size ≤ sizeLine ∧ Vals vs its.toList
theorem Scr.sq {K : PySem.W.Frag} {H : Hp} {a : Addr} {vs : List V} (h : Scr K H a vs) : SqL K H a vs := by
  rcases h with h | h
  · exact .inl (.inr h)
  · exact .inr h
/-- a plain value -/
def VSc : D → V → Prop
  | .non, v => v = .non
  | .bl b, v => v = .bl b
  | .int i, v => v = .int i
  | .str x, v => v = .str x
  | _, _ => False
/-- a written dict of plain values by texts -/
def KD (K : PySem.W.Frag) (w : World) (a : Addr) (kvs : List (Str × D)) : Prop :=
  ∃ (es : Array DictEntry) (n : Nat), K.lookup a = some ⟨.type "dict", none, .dict es n, #[]⟩ ∧ PySem.W.KeysLit w.params es.toList ∧ (a == sysModules) = false ∧
    (∀ x d, kvs.lookup x = some d → ∃ u v, PySem.W.nsIn K a x = some (some u) ∧ RelV v u ∧ VSc d v) ∧ ∀ x, kvs.lookup x = none → PySem.W.nsIn K a x = some none

/-- the surroundings of a relation: the written part, the world, the heap, the store's addresses, those that are owned by somebody -/
structure Cr where
  K : PySem.W.Frag
  w : World
  cl : Nat → Option Addr
mutual
inductive VR (G : Cr) (H : Hp) (ρ B : List Addr) : D → V → Prop
  | non : VR G H ρ B .non .non
  | bl (b : Bool) : VR G H ρ B (.bl b) (.bl b)
  | int (i : Int) : VR G H ρ B (.int i) (.int i)
  | str (x : Str) : VR G H ρ B (.str x) (.str x)
  | tup {a : Addr} {ds : List D} {vs : List V} : SqT G.K H a vs → VRs G H ρ B ds vs → VR G H ρ B (.tup ds) (.ref a)
  | lst {a : Addr} {ds : List D} {vs : List V} : FzL H ρ B a vs → VRs G H ρ B ds vs → VR G H ρ B (.lst ds) (.ref a)
  | dct {a : Addr} {ds : List (Key × D)} {vs : List (Key × V)} : FzD H ρ B a vs → VRk G H ρ B ds vs → VR G H ρ B (.dct ds) (.ref a)
  | ref {a : Addr} {i : Nat} : ρ[i]? = some a → VR G H ρ B (.ref i) (.ref a)
  | scr {a : Addr} {ns : List Int} : Scr G.K H a (ns.map V.int) → VR G H ρ B (.scr ns) (.ref a)
  | kdc {a : Addr} {kvs : List (Str × D)} : KD G.K G.w a kvs → VR G H ρ B (.kdc kvs) (.ref a)
inductive VRs (G : Cr) (H : Hp) (ρ B : List Addr) : List D → List V → Prop
  | nil : VRs G H ρ B [] []
  | cons {d : D} {v : V} {ds : List D} {vs : List V} : VR G H ρ B d v → VRs G H ρ B ds vs → VRs G H ρ B (d :: ds) (v :: vs)
inductive VRk (G : Cr) (H : Hp) (ρ B : List Addr) : List (Key × D) → List (Key × V) → Prop
  | nil : VRk G H ρ B [] []
  | cons {k : Key} {d : D} {v : V} {ds : List (Key × D)} {vs : List (Key × V)} : VR G H ρ B d v → VRk G H ρ B ds vs → VRk G H ρ B ((k, d) :: ds) ((k, v) :: vs)
end

structure Keep (G : Cr) (H : Hp) (ρ B : List Addr) (H' : Hp) (ρ' B' : List Addr) : Prop where
  tup : ∀ a vs, SqT G.K H a vs → SqT G.K H' a vs
  lst : ∀ a vs, FzL H ρ B a vs → FzL H' ρ' B' a vs
  dct : ∀ a kvs, FzD H ρ B a kvs → FzD H' ρ' B' a kvs
  scr : ∀ a vs, Scr G.K H a vs → Scr G.K H' a vs
  ref : ∀ (i : Nat) (a : Addr), ρ[i]? = some a → ρ'[i]? = some a

section
variable {G : Cr} {H H' : Hp} {ρ ρ' B B' : List Addr}
mutual
theorem VR.mono (k : Keep G H ρ B H' ρ' B') : ∀ (d : D) (v : V), VR G H ρ B d v → VR G H' ρ' B' d v
  | .non, _, .non => .non
  | .bl _, _, .bl b => .bl b
  | .int _, _, .int i => .int i
  | .str _, _, .str x => .str x
  | .tup ds, _, .tup (vs := vs) q r => .tup (k.tup _ _ q) (VRs.mono k ds vs r)
  | .lst ds, _, .lst (vs := vs) q r => .lst (k.lst _ _ q) (VRs.mono k ds vs r)
  | .dct ds, _, .dct (vs := vs) q r => .dct (k.dct _ _ q) (VRk.mono k ds vs r)
  | .ref _, _, .ref e => .ref (k.ref _ _ e)
  | .scr _, _, .scr q => .scr (k.scr _ _ q)
  | .kdc _, _, .kdc q => .kdc q
theorem VRs.mono (k : Keep G H ρ B H' ρ' B') : ∀ (ds : List D) (vs : List V), VRs G H ρ B ds vs → VRs G H' ρ' B' ds vs
  | [], _, .nil => .nil
  | d :: ds, _, .cons (v := v) (vs := vs) q r => .cons (VR.mono k d v q) (VRs.mono k ds vs r)
theorem VRk.mono (k : Keep G H ρ B H' ρ' B') : ∀ (ds : List (Key × D)) (vs : List (Key × V)), VRk G H ρ B ds vs → VRk G H' ρ' B' ds vs
  | [], _, .nil => .nil
  | (_, d) :: ds, _, .cons (v := v) (vs := vs) q r => .cons (VR.mono k d v q) (VRk.mono k ds vs r)
end
end

section
variable {G : Cr} {H : Hp} {ρ B : List Addr}
theorem VRs.length : ∀ {ds : List D} {vs : List V}, VRs G H ρ B ds vs → vs.length = ds.length
  | _, _, .nil => rfl
  | _, _, .cons _ r => congrArg Nat.succ (VRs.length r)
theorem VRs.append : ∀ {ds es : List D} {vs us : List V}, VRs G H ρ B ds vs → VRs G H ρ B es us → VRs G H ρ B (ds ++ es) (vs ++ us)
  | _, _, _, _, .nil, s => s
  | _, _, _, _, .cons r t, s => .cons r (VRs.append t s)
theorem VRs.get : ∀ {ds : List D} {vs : List V} {i : Nat} {d : D}, VRs G H ρ B ds vs → ds[i]? = some d → ∃ v, vs[i]? = some v ∧ VR G H ρ B d v
  | _, _, _, _, .nil, e => by simp at e
  | _, _, 0, _, .cons r _, e => by simp at e; subst e; exact ⟨_, rfl, r⟩
  | _, _, i + 1, d, .cons _ t, e => by
    obtain ⟨v, h1, h2⟩ := VRs.get (i := i) (d := d) t (by simpa using e)
    exact ⟨v, by simpa using h1, h2⟩
theorem VRs.getV : ∀ {ds : List D} {vs : List V} {i : Nat} {v : V}, VRs G H ρ B ds vs → vs[i]? = some v → ∃ d, ds[i]? = some d ∧ VR G H ρ B d v
  | _, _, _, _, .nil, e => by simp at e
  | _, _, 0, _, .cons r _, e => by simp at e; subst e; exact ⟨_, rfl, r⟩
  | _, _, i + 1, d, .cons _ t, e => by
    obtain ⟨v, h1, h2⟩ := VRs.getV (i := i) (v := d) t (by simpa using e)
    exact ⟨v, by simpa using h1, h2⟩
theorem VRs.take : ∀ {ds : List D} {vs : List V} (n : Nat), VRs G H ρ B ds vs → VRs G H ρ B (ds.take n) (vs.take n)
  | _, _, 0, _ => .nil
  | _, _, _ + 1, .nil => .nil
  | _, _, n + 1, .cons r t => .cons r (VRs.take n t)
theorem VRs.drop : ∀ {ds : List D} {vs : List V} (n : Nat), VRs G H ρ B ds vs → VRs G H ρ B (ds.drop n) (vs.drop n)
  | _, _, 0, r => r
  | _, _, _ + 1, .nil => .nil
  | _, _, n + 1, .cons _ t => VRs.drop n t
theorem VRs.set {d : D} {v : V} (r : VR G H ρ B d v) : ∀ {ds : List D} {vs : List V} (i : Nat), VRs G H ρ B ds vs → VRs G H ρ B (ds.set i d) (vs.set i v)
  | _, _, _, .nil => .nil
  | _, _, 0, .cons _ t => .cons r t
  | _, _, i + 1, .cons q t => .cons q (VRs.set r i t)
theorem VRs.reverse : ∀ {ds : List D} {vs : List V}, VRs G H ρ B ds vs → VRs G H ρ B ds.reverse vs.reverse
  | _, _, .nil => .nil
  | _, _, .cons r t => by rw [List.reverse_cons, List.reverse_cons]; exact (VRs.reverse t).append (.cons r .nil)
theorem VRs.dropLast : ∀ {ds : List D} {vs : List V}, VRs G H ρ B ds vs → VRs G H ρ B ds.dropLast vs.dropLast := fun {ds vs} r => by
  rw [List.dropLast_eq_take, List.dropLast_eq_take, r.length]
  exact r.take _
theorem VRs.flat {ds : List D} {vs : List V} (r : VRs G H ρ B ds vs) : ∀ n : Nat, VRs G H ρ B (List.replicate n ds).flatten (List.replicate n vs).flatten
  | 0 => .nil
  | n + 1 => by rw [List.replicate_succ, List.replicate_succ, List.flatten_cons, List.flatten_cons]; exact r.append (VRs.flat r n)
theorem VRs.cut {ds : List D} {vs : List V} (r : VRs G H ρ B ds vs) (lo hi : Option Int) : VRs G H ρ B (cutD ds lo hi) (cutV vs lo hi) := by
  unfold cutD cutV
  rw [r.length]
  exact (r.drop _).take _
theorem VRs.ints : ∀ {ds : List D} {vs : List V} {ns : List Int}, VRs G H ρ B ds vs → intsOf ds = some ns → vs = ns.map V.int
  | _, _, _, .nil, e => by cases e; rfl
  | d :: ds, _, ns, .cons r t, e => by
    cases r <;> simp only [intsOf] at e <;> try (cases e; done)
    obtain ⟨ms, e1, e2⟩ := Option.map_eq_some_iff.mp e
    subst e2
    rw [VRs.ints t e1, List.map_cons]
theorem VRs.bools : ∀ {ds : List D} {vs : List V} {ns : List Bool}, VRs G H ρ B ds vs → boolsOf ds = some ns → vs = ns.map V.bl
  | _, _, _, .nil, e => by cases e; rfl
  | d :: ds, _, ns, .cons r t, e => by
    cases r <;> simp only [boolsOf] at e <;> try (cases e; done)
    obtain ⟨ms, e1, e2⟩ := Option.map_eq_some_iff.mp e
    subst e2
    rw [VRs.bools t e1, List.map_cons]
theorem VRs.mapInt : ∀ (ns : List Int), VRs G H ρ B (ns.map D.int) (ns.map V.int)
  | [] => .nil
  | n :: ns => .cons (.int n) (VRs.mapInt ns)
theorem VRk.lk {k : Key} : ∀ {ds : List (Key × D)} {vs : List (Key × V)} {d : D}, VRk G H ρ B ds vs → look ds k = some d → ∃ v, valV vs k = some v ∧ VR G H ρ B d v
  | _, _, _, .nil, e => by cases e
  | (k', d') :: ds, _, d, .cons (v := v) (vs := vs) r t, e => by
    unfold look at e
    unfold valV
    by_cases h : k' = k
    · rw [List.find?_cons_of_pos (by simpa using h)] at e ⊢
      cases e; exact ⟨v, rfl, r⟩
    · rw [List.find?_cons_of_neg (by simpa using h)] at e ⊢
      exact VRk.lk t e
theorem VRk.any {k : Key} : ∀ {ds : List (Key × D)} {vs : List (Key × V)}, VRk G H ρ B ds vs → (ds.any fun kv => decide (kv.1 = k)) = (vs.any fun kv => decide (kv.1 = k))
  | _, _, .nil => rfl
  | (k', d') :: ds, _, .cons (v := v) (vs := vs) r t => by
    rw [List.any_cons, List.any_cons, VRk.any t]
theorem VRk.lkNone {k : Key} : ∀ {ds : List (Key × D)} {vs : List (Key × V)}, VRk G H ρ B ds vs → look ds k = none → valV vs k = none
  | _, _, .nil, e => rfl
  | (k', d') :: ds, _, .cons (v := v) (vs := vs) r t, e => by
    unfold look at e
    unfold valV
    by_cases h : k' = k
    · rw [List.find?_cons_of_pos (by simpa using h)] at e
      cases e
    · rw [List.find?_cons_of_neg (by simpa using h)] at e ⊢
      exact VRk.lkNone t e
theorem VRk.length : ∀ {ds : List (Key × D)} {vs : List (Key × V)}, VRk G H ρ B ds vs → vs.length = ds.length
  | _, _, .nil => rfl
  | _, _, .cons _ r => congrArg Nat.succ (VRk.length r)
theorem VRk.append : ∀ {ds es : List (Key × D)} {vs us : List (Key × V)}, VRk G H ρ B ds vs → VRk G H ρ B es us → VRk G H ρ B (ds ++ es) (vs ++ us)
  | _, _, _, _, .nil, s => s
  | _, _, _, _, .cons r t, s => .cons r (VRk.append t s)
theorem VRk.map {k : Key} {d : D} {v : V} (r : VR G H ρ B d v) : ∀ {ds : List (Key × D)} {vs : List (Key × V)}, VRk G H ρ B ds vs →
    VRk G H ρ B (ds.map fun kv => if kv.1 = k then (kv.1, d) else kv) (vs.map fun kv => if kv.1 = k then (kv.1, v) else kv)
  | _, _, .nil => .nil
  | (k', d') :: ds, _, .cons (v := v') (vs := vs) q t => by
    rw [List.map_cons, List.map_cons]
    by_cases h : k' = k
    · rw [if_pos h, if_pos h]; exact .cons r (VRk.map r t)
    · rw [if_neg h, if_neg h]; exact .cons q (VRk.map r t)
end

section
variable {G : Cr} {H H1 H2 : Hp} {ρ ρ1 ρ2 B : List Addr} {S S1 : Sto}
theorem VRk.put {k : Key} {d : D} {v : V} {ds : List (Key × D)} {vs : List (Key × V)} (r : VR G H ρ B d v) (q : VRk G H ρ B ds vs) : VRk G H ρ B (Wf.put ds k d) (putK vs k v) := by
  unfold Wf.put putK
  rw [q.any]
  split
  · exact VRk.map r q
  · exact q.append (.cons r .nil)

def VRf (G : Cr) (H : Hp) (ρ B : List Addr) (fs : List (Str × D)) (gs : List (Str × V)) : Prop := Paired (fun p q => p.1 = q.1 ∧ VR G H ρ B p.2 q.2) fs gs
/-- a store's object, as it stands -/
inductive ObR (G : Cr) (H : Hp) (ρ B : List Addr) : Ob → Addr → Prop
  | lst {a : Addr} {ds : List D} {vs : List V} : H a = some (.lst vs) → VRs G H ρ B ds vs → ObR G H ρ B (.lst ds) a
  | dct {a : Addr} {ds : List (Key × D)} {vs : List (Key × V)} : H a = some (.dK vs) → VRk G H ρ B ds vs → ObR G H ρ B (.dct ds) a
  | ins {a C dx : Addr} {c : Nat} {fs : List (Str × D)} {gs : List (Str × V)} : H a = some (.ins C dx gs) → G.cl c = some C → VRf G H ρ B fs gs → ObR G H ρ B (.ins c fs) a
theorem ObR.mut {ob : Ob} {a : Addr} (r : ObR G H ρ B ob a) : Mut (H a) := by
  cases r with
  | lst h _ => rw [h]; trivial
  | dct h _ => rw [h]; trivial
  | ins h _ _ => rw [h]; trivial
structure SR (G : Cr) (H : Hp) (ρ B : List Addr) (S : Sto) : Prop where
  len : ρ.length = S.length
  nd : ρ.Nodup
  ob : ∀ (i : Nat) (o : Ob) (a : Addr), S[i]? = some o → ρ[i]? = some a → ObR G H ρ B o a
  bt : ∀ a ∈ B, H a ≠ none ∧ a ∉ ρ
theorem SR.at (s : SR G H ρ B S) {i : Nat} {o : Ob} (e : S[i]? = some o) : ∃ a, ρ[i]? = some a ∧ ObR G H ρ B o a := by
  have h : i < ρ.length := by rw [s.len]; exact (List.getElem?_eq_some_iff.mp e).1
  exact ⟨ρ[i], List.getElem?_eq_getElem h, s.ob i o _ e (List.getElem?_eq_getElem h)⟩
theorem SR.mem (s : SR G H ρ B S) {a : Addr} (h : a ∈ ρ) : ∃ (i : Nat) (o : Ob), S[i]? = some o ∧ ρ[i]? = some a ∧ ObR G H ρ B o a := by
  obtain ⟨i, hi, e⟩ := List.getElem_of_mem h
  have hs : i < S.length := by rw [← s.len]; exact hi
  exact ⟨i, S[i], List.getElem?_eq_getElem hs, by rw [List.getElem?_eq_getElem hi, e], s.ob i _ a (List.getElem?_eq_getElem hs) (by rw [List.getElem?_eq_getElem hi, e])⟩
theorem SR.mut (s : SR G H ρ B S) {a : Addr} (h : a ∈ ρ) : Mut (H a) := let ⟨_, _, _, _, r⟩ := s.mem h; r.mut
theorem SR.tracked (s : SR G H ρ B S) {a : Addr} (h : a ∈ ρ) : H a ≠ none := fun e => by
  have m := s.mut h
  rw [e] at m
  exact m

/-- what an expression may do: the store's objects change, new ones come -/
structure Ext (H : Hp) (ρ : List Addr) (H' : Hp) (ρ' : List Addr) : Prop where
  keep : ∀ a o, H a = some o → a ∉ ρ → H' a = some o
  there : ∀ a, H a ≠ none → H' a ≠ none
  new : ∃ n, ρ' = ρ ++ n ∧ ∀ p ∈ n, H p = none
theorem Ext.refl : Ext H ρ H ρ := ⟨fun _ _ h _ => h, fun _ h => h, [], by simp, fun _ h => nomatch h⟩
theorem Ext.old (e : Ext H ρ H1 ρ1) {a : Addr} (h : H a ≠ none) (n : a ∉ ρ) : a ∉ ρ1 := by
  obtain ⟨m, rfl, hm⟩ := e.new
  intro z
  rcases List.mem_append.mp z with z | z
  · exact n z
  · exact h (hm a z)
theorem Ext.trans (e : Ext H ρ H1 ρ1) (f : Ext H1 ρ1 H2 ρ2) : Ext H ρ H2 ρ2 := by
  refine ⟨fun a o h n => f.keep a o (e.keep a o h n) (e.old (by rw [h]; simp) n), fun a h => f.there a (e.there a h), ?_⟩
  obtain ⟨m, rfl, hm⟩ := e.new
  obtain ⟨m', rfl, hm'⟩ := f.new
  refine ⟨m ++ m', by rw [List.append_assoc], fun p hp => ?_⟩
  rcases List.mem_append.mp hp with z | z
  · exact hm p z
  · exact Classical.byContradiction fun q => e.there p q (hm' p z)
theorem Ext.keeps (e : Ext H ρ H1 ρ1) (s : SR G H ρ B S) : Keep G H ρ B H1 ρ1 B := by
  have nt : ∀ a o, H a = some o → ¬ Mut (some o) → a ∉ ρ := fun a o h n z => by
    have m := s.mut z
    rw [h] at m
    exact n m
  refine ⟨fun a vs h => ?_, fun a vs h => ⟨e.keep a _ h.1 h.2.1, e.old (by rw [h.1]; simp) h.2.1, h.2.2⟩, fun a vs h => ⟨e.keep a _ h.1 h.2.1, e.old (by rw [h.1]; simp) h.2.1, h.2.2⟩, fun a vs h => ?_, fun i a h => ?_⟩
  · rcases h with (h | ⟨o, h⟩) | h
    · exact .inl (.inl (e.keep a _ h (nt a _ h fun z => z)))
    · exact .inl (.inr ⟨o, e.keep a _ h (nt a _ h fun z => z)⟩)
    · exact .inr h
  · rcases h with ⟨o, h⟩ | h
    · exact .inl ⟨o, e.keep a _ h (nt a _ h fun z => z)⟩
    · exact .inr h
  · obtain ⟨m, rfl, _⟩ := e.new
    rw [List.getElem?_append_left (List.getElem?_eq_some_iff.mp h).1]
    exact h
/-- a new object that is not the store's -/
theorem Ext.laid {p : Addr} {o : HO} (h : H p = none) : Ext H ρ (upd H p o) ρ := by
  refine ⟨fun a o' e _ => ?_, fun a e => ?_, [], by simp, fun _ z => nomatch z⟩
  · rw [upd_ne (ne_of_none e h)]; exact e
  · by_cases z : a = p
    · rw [z, upd_same]; simp
    · rw [upd_ne z]; exact e
theorem VRf.mono {H' : Hp} {ρ' B' : List Addr} (k : Keep G H ρ B H' ρ' B') {fs : List (Str × D)} {gs : List (Str × V)} (h : VRf G H ρ B fs gs) : VRf G H' ρ' B' fs gs :=
  Paired.mapP h fun _ _ ⟨e, r⟩ => ⟨e, VR.mono k _ _ r⟩
/-- all of the store stands -/
theorem SR.same {H' : Hp} (s : SR G H ρ B S) (k : Keep G H ρ B H' ρ B) (same : ∀ a ∈ ρ, H' a = H a) (t : ∀ a ∈ B, H' a ≠ none) : SR G H' ρ B S := by
  refine ⟨s.len, s.nd, fun i o a e1 e2 => ?_, fun a h => ⟨t a h, (s.bt a h).2⟩⟩
  have hm : a ∈ ρ := List.mem_of_getElem? e2
  cases s.ob i o a e1 e2 with
  | lst h r => exact .lst (by rw [same a hm]; exact h) (VRs.mono k _ _ r)
  | dct h r => exact .dct (by rw [same a hm]; exact h) (VRk.mono k _ _ r)
  | ins h c r => exact .ins (by rw [same a hm]; exact h) c (r.mono k)
theorem SR.laid {p : Addr} {o : HO} (s : SR G H ρ B S) (h : H p = none) : SR G (upd H p o) ρ B S := by
  refine s.same ((Ext.laid (ρ := ρ) (o := o) h).keeps s) (fun a ha => upd_ne fun z => s.tracked ha (by rw [z]; exact h)) fun a ha => ?_
  exact (Ext.laid (ρ := ρ) (o := o) h).there a (s.bt a ha).1
/-- a new object goes to the store -/
theorem SR.push {p : Addr} {o : HO} {ob : Ob} (s : SR G H ρ B S) (h : H p = none) (hb : ObR G (upd H p o) (ρ ++ [p]) B ob p) : SR G (upd H p o) (ρ ++ [p]) B (S ++ [ob]) ∧ Ext H ρ (upd H p o) (ρ ++ [p]) := by
  have np : p ∉ ρ := fun z => s.tracked z h
  have ex : Ext H ρ (upd H p o) (ρ ++ [p]) := by
    refine ⟨fun a o' e _ => by rw [upd_ne (ne_of_none e h)]; exact e, fun a e => ?_, [p], rfl, fun q hq => by rw [List.mem_singleton.mp hq]; exact h⟩
    by_cases z : a = p
    · rw [z, upd_same]; simp
    · rw [upd_ne z]; exact e
  refine ⟨⟨by simp [s.len], ?_, fun i o' a e1 e2 => ?_, fun a ha => ⟨ex.there a (s.bt a ha).1, ex.old (s.bt a ha).1 (s.bt a ha).2⟩⟩, ex⟩
  · rw [List.nodup_append]
    exact ⟨s.nd, by simp, fun a ha b hb e => by rw [List.mem_singleton.mp hb] at e; exact np (e ▸ ha)⟩
  · by_cases hi : i < S.length
    · rw [List.getElem?_append_left hi] at e1
      rw [List.getElem?_append_left (by rw [s.len]; exact hi)] at e2
      have hm : a ∈ ρ := List.mem_of_getElem? e2
      have k := ex.keeps s
      have un : upd H p o a = H a := upd_ne fun z => np (z ▸ hm)
      cases s.ob i o' a e1 e2 with
      | lst h r => exact .lst (by rw [un]; exact h) (VRs.mono k _ _ r)
      | dct h r => exact .dct (by rw [un]; exact h) (VRk.mono k _ _ r)
      | ins h c r => exact .ins (by rw [un]; exact h) c (r.mono k)
    · have hl : i = S.length := by
        have := (List.getElem?_eq_some_iff.mp e1).1
        simp at this; omega
      subst hl
      rw [List.getElem?_append_right (Nat.le_refl _)] at e1
      rw [List.getElem?_append_right (by rw [s.len]; exact Nat.le_refl _), s.len] at e2
      simp at e1 e2
      subst e1; subst e2
      exact hb
/-- an object of the store is changed -/
theorem SR.write {i : Nat} {a : Addr} {o : HO} {ob ob0 : Ob} (s : SR G H ρ B S) (hi : ρ[i]? = some a) (h0 : S[i]? = some ob0) (mo : Mut (some o)) (hb : ∀ G' : Keep G H ρ B (upd H a o) ρ B, ObR G (upd H a o) ρ B ob a) :
    SR G (upd H a o) ρ B (S.set i ob) ∧ Ext H ρ (upd H a o) ρ := by
  have hm : a ∈ ρ := List.mem_of_getElem? hi
  have ex : Ext H ρ (upd H a o) ρ := by
    refine ⟨fun b o' e n => by rw [upd_ne (a := a) (b := b) (fun z => n (z ▸ hm))]; exact e, fun b e => ?_, [], by simp, fun _ z => nomatch z⟩
    by_cases z : b = a
    · rw [z, upd_same]; simp
    · rw [upd_ne z]; exact e
  have k := ex.keeps s
  refine ⟨⟨by rw [List.length_set]; exact s.len, s.nd, fun j o' b e1 e2 => ?_, fun b hb => ⟨ex.there b (s.bt b hb).1, (s.bt b hb).2⟩⟩, ex⟩
  by_cases hj : j = i
  · subst hj
    rw [hi] at e2; cases e2
    rw [List.getElem?_set_self (List.getElem?_eq_some_iff.mp h0).1] at e1
    cases e1
    exact hb k
  · rw [List.getElem?_set_ne (Ne.symm hj)] at e1
    have hba : b ≠ a := fun z => hj (by
      obtain ⟨l1, q1⟩ := List.getElem?_eq_some_iff.mp hi
      obtain ⟨l2, q2⟩ := List.getElem?_eq_some_iff.mp e2
      exact (List.getElem_inj s.nd).mp (q2.trans (z.trans q1.symm)))
    have un : upd H a o b = H b := upd_ne hba
    cases s.ob j o' b e1 e2 with
    | lst h r => exact .lst (by rw [un]; exact h) (VRs.mono k _ _ r)
    | dct h r => exact .dct (by rw [un]; exact h) (VRk.mono k _ _ r)
    | ins h c r => exact .ins (by rw [un]; exact h) c (r.mono k)

/-! ### looked at -/
/-- as VR, but a list or a dict at the top may be anybody's -/
inductive TR (G : Cr) (H : Hp) (ρ B : List Addr) : D → V → Prop
  | of {d : D} {v : V} : VR G H ρ B d v → TR G H ρ B d v
  | lst {a : Addr} {ds : List D} {vs : List V} : H a = some (.lst vs) → VRs G H ρ B ds vs → TR G H ρ B (.lst ds) (.ref a)
  | dct {a : Addr} {ds : List (Key × D)} {vs : List (Key × V)} : H a = some (.dK vs) → VRk G H ρ B ds vs → TR G H ρ B (.dct ds) (.ref a)
theorem TR.top {d : D} {v : V} (t : TR G H ρ B d v) (s : SR G H ρ B S) : TR G H ρ B (top S d) v := by
  cases d with
  | ref i =>
    cases t with
    | of r =>
      cases r with
      | ref e =>
        show TR G H ρ B (match S[i]? with | some (.lst xs) => .lst xs | some (.dct kvs) => .dct kvs | _ => .ref i) _
        split
        · rename_i xs q
          cases s.ob i _ _ q e with
          | lst h r => exact .lst h r
        · rename_i xs q
          cases s.ob i _ _ q e with
          | dct h r => exact .dct h r
        · exact .of (.ref e)
  | _ => exact t
theorem TR.lstOf {ds : List D} {v : V} (t : TR G H ρ B (.lst ds) v) : ∃ a vs, v = .ref a ∧ H a = some (.lst vs) ∧ VRs G H ρ B ds vs := by
  cases t with
  | of r => cases r with | lst h q => exact ⟨_, _, rfl, h.1, q⟩
  | lst h q => exact ⟨_, _, rfl, h, q⟩
theorem TR.dctOf {ds : List (Key × D)} {v : V} (t : TR G H ρ B (.dct ds) v) : ∃ a vs, v = .ref a ∧ H a = some (.dK vs) ∧ VRk G H ρ B ds vs := by
  cases t with
  | of r => cases r with | dct h q => exact ⟨_, _, rfl, h.1, q⟩
  | dct h q => exact ⟨_, _, rfl, h, q⟩
theorem TR.tupOf {ds : List D} {v : V} (t : TR G H ρ B (.tup ds) v) : ∃ a vs, v = .ref a ∧ SqT G.K H a vs ∧ VRs G H ρ B ds vs := by
  cases t with
  | of r => cases r with | tup h q => exact ⟨_, _, rfl, h, q⟩
theorem TR.intOf {i : Int} {v : V} (t : TR G H ρ B (.int i) v) : v = .int i := by
  cases t with
  | of r => cases r; rfl
theorem TR.blOf {i : Bool} {v : V} (t : TR G H ρ B (.bl i) v) : v = .bl i := by
  cases t with
  | of r => cases r; rfl
theorem TR.strOf {i : Str} {v : V} (t : TR G H ρ B (.str i) v) : v = .str i := by
  cases t with
  | of r => cases r; rfl
theorem TR.nonOf {v : V} (t : TR G H ρ B .non v) : v = .non := by
  cases t with
  | of r => cases r; rfl
end
/-- an operand that is looked at: a value, or an owned list or dict of this frame -/
inductive PR (G : Cr) (H : Hp) (ρ B : List Addr) : D → V → Prop
  | of {d : D} {v : V} : VR G H ρ B d v → PR G H ρ B d v
  | ol {a : Addr} {ds : List D} {vs : List V} : a ∈ B → H a = some (.lst vs) → VRs G H ρ B ds vs → PR G H ρ B (.lst ds) (.ref a)
  | od {a : Addr} {ds : List (Key × D)} {vs : List (Key × V)} : a ∈ B → H a = some (.dK vs) → VRk G H ρ B ds vs → PR G H ρ B (.dct ds) (.ref a)
theorem PR.tr {G : Cr} {H : Hp} {ρ B : List Addr} {d : D} {v : V} (t : PR G H ρ B d v) : TR G H ρ B d v := by
  cases t with
  | of r => exact .of r
  | ol _ h r => exact .lst h r
  | od _ h r => exact .dct h r
theorem PR.ext {G : Cr} {H H1 : Hp} {ρ ρ1 B : List Addr} {S : Sto} {d : D} {v : V} (s : SR G H ρ B S) (e : Ext H ρ H1 ρ1) (t : PR G H ρ B d v) : PR G H1 ρ1 B d v := by
  have k := e.keeps s
  cases t with
  | of r => exact .of (VR.mono k _ _ r)
  | ol hb h r => exact .ol hb (e.keep _ _ h (s.bt _ hb).2) (VRs.mono k _ _ r)
  | od hb h r => exact .od hb (e.keep _ _ h (s.bt _ hb).2) (VRk.mono k _ _ r)
theorem PR.top {G : Cr} {H : Hp} {ρ B : List Addr} {S : Sto} {d : D} {v : V} (s : SR G H ρ B S) (t : PR G H ρ B d v) : TR G H ρ B (Wf.top S d) v := t.tr.top s
inductive PRs (G : Cr) (H : Hp) (ρ B : List Addr) : List D → List V → Prop
  | nil : PRs G H ρ B [] []
  | cons {d : D} {v : V} {ds : List D} {vs : List V} : PR G H ρ B d v → PRs G H ρ B ds vs → PRs G H ρ B (d :: ds) (v :: vs)
inductive TRs (G : Cr) (H : Hp) (ρ B : List Addr) : List D → List V → Prop
  | nil : TRs G H ρ B [] []
  | cons {d : D} {v : V} {ds : List D} {vs : List V} : TR G H ρ B d v → TRs G H ρ B ds vs → TRs G H ρ B (d :: ds) (v :: vs)
theorem PRs.ext {G : Cr} {H H1 : Hp} {ρ ρ1 B : List Addr} {S : Sto} (s : SR G H ρ B S) (e : Ext H ρ H1 ρ1) : ∀ {ds : List D} {vs : List V}, PRs G H ρ B ds vs → PRs G H1 ρ1 B ds vs
  | _, _, .nil => .nil
  | _, _, .cons t r => .cons (t.ext s e) (PRs.ext s e r)
theorem PRs.top {G : Cr} {H : Hp} {ρ B : List Addr} {S : Sto} (s : SR G H ρ B S) : ∀ {ds : List D} {vs : List V}, PRs G H ρ B ds vs → TRs G H ρ B (ds.map (Wf.top S)) vs
  | _, _, .nil => .nil
  | _, _, .cons t r => .cons (t.top s) (PRs.top s r)
theorem VRs.ext {G : Cr} {H H1 : Hp} {ρ ρ1 B : List Addr} {S : Sto} (s : SR G H ρ B S) (e : Ext H ρ H1 ρ1) {ds : List D} {vs : List V} (r : VRs G H ρ B ds vs) : VRs G H1 ρ1 B ds vs := VRs.mono (e.keeps s) _ _ r
theorem VR.ext {G : Cr} {H H1 : Hp} {ρ ρ1 B : List Addr} {S : Sto} (s : SR G H ρ B S) (e : Ext H ρ H1 ρ1) {d : D} {v : V} (r : VR G H ρ B d v) : VR G H1 ρ1 B d v := VR.mono (e.keeps s) _ _ r

/-! ### the frame's slots -/
inductive SlR (G : Cr) (H : Hp) (ρ B B0 : List Addr) (σ : St) (i : Nat) : Sl → Prop
  | un : SlR G H ρ B B0 σ i .un
  | fz {d : D} {v : V} : σ[i]? = some (some v) → VR G H ρ B d v → SlR G H ρ B B0 σ i (.fz d)
  | ol {a : Addr} {ds : List D} {vs : List V} : σ[i]? = some (some (.ref a)) → a ∈ B → a ∉ B0 → H a = some (.lst vs) → VRs G H ρ B ds vs → SlR G H ρ B B0 σ i (.ol ds)
  | od {a : Addr} {ds : List (Key × D)} {vs : List (Key × V)} : σ[i]? = some (some (.ref a)) → a ∈ B → a ∉ B0 → H a = some (.dK vs) → VRk G H ρ B ds vs → SlR G H ρ B B0 σ i (.od ds)
def isOwn : Sl → Bool
  | .ol _ => true
  | .od _ => true
  | _ => false
structure ER (G : Cr) (H : Hp) (ρ B B0 : List Addr) (σ : St) (env : Env) : Prop where
  len : σ.length = env.length
  sl : ∀ (i : Nat) (x : Sl), env[i]? = some x → SlR G H ρ B B0 σ i x
  apart : ∀ (i j : Nat) (x y : Sl) (a : Addr), env[i]? = some x → env[j]? = some y → isOwn x = true → isOwn y = true → σ[i]? = some (some (.ref a)) → σ[j]? = some (some (.ref a)) → i = j
theorem SlR.ext {G : Cr} {H H1 : Hp} {ρ ρ1 B B0 : List Addr} {S : Sto} {σ : St} {i : Nat} {x : Sl} (s : SR G H ρ B S) (e : Ext H ρ H1 ρ1) (t : SlR G H ρ B B0 σ i x) : SlR G H1 ρ1 B B0 σ i x := by
  have k := e.keeps s
  cases t with
  | un => exact .un
  | fz h r => exact .fz h (VR.mono k _ _ r)
  | ol h hb hn hh r => exact .ol h hb hn (e.keep _ _ hh (s.bt _ hb).2) (VRs.mono k _ _ r)
  | od h hb hn hh r => exact .od h hb hn (e.keep _ _ hh (s.bt _ hb).2) (VRk.mono k _ _ r)
theorem ER.ext {G : Cr} {H H1 : Hp} {ρ ρ1 B B0 : List Addr} {S : Sto} {σ : St} {env : Env} (s : SR G H ρ B S) (e : Ext H ρ H1 ρ1) (t : ER G H ρ B B0 σ env) : ER G H1 ρ1 B B0 σ env :=
  ⟨t.len, fun i x h => (t.sl i x h).ext s e, t.apart⟩
theorem ER.get {G : Cr} {H : Hp} {ρ B B0 : List Addr} {σ : St} {env : Env} {i : Nat} {d : D} (t : ER G H ρ B B0 σ env) (h : getS env i = some d) : ∃ v, σ[i]? = some (some v) ∧ VR G H ρ B d v := by
  unfold getS at h
  split at h
  · rename_i d' q
    cases h
    cases t.sl i _ q with
    | fz e r => exact ⟨_, e, r⟩
  · cases h
theorem ER.peek {G : Cr} {H : Hp} {ρ B B0 : List Addr} {σ : St} {env : Env} {i : Nat} {d : D} (t : ER G H ρ B B0 σ env) (h : peekS env i = some d) : ∃ v, σ[i]? = some (some v) ∧ PR G H ρ B d v := by
  unfold peekS at h
  split at h
  · rename_i d' q
    cases h
    cases t.sl i _ q with
    | fz e r => exact ⟨_, e, .of r⟩
  · rename_i d' q
    cases h
    cases t.sl i _ q with
    | ol e hb _ hh r => exact ⟨_, e, .ol hb hh r⟩
  · rename_i d' q
    cases h
    cases t.sl i _ q with
    | od e hb _ hh r => exact ⟨_, e, .od hb hh r⟩
  · cases h
end Wf
set_option Elab.async false
set_option linter.all false
namespace Wf
open PySem L2

/-! ### operations by values -/
def rSem2 (G : Cr) (f : D → D → Option D) : R2 := fun x y H Q => ∃ ρ B S a b d, SR G H ρ B S ∧ TR G H ρ B a x ∧ TR G H ρ B b y ∧ f a b = some d ∧ ∀ v H', Ext H ρ H' ρ → SR G H' ρ B S → VR G H' ρ B d v → Q v H'
section
variable {X : Cx} {G : Cr} {H : Hp} {ρ B : List Addr} {S : Sto}
theorem new_lst {ds : List D} {vs : List V} {p : Addr} {Q : VK} (s : SR G H ρ B S) (r : VRs G H ρ B ds vs) (h : H p = none) (q : ∀ v H', Ext H ρ H' ρ → SR G H' ρ B S → VR G H' ρ B (.lst ds) v → Q v H') : Q (.ref p) (upd H p (.lst vs)) :=
  q _ _ (Ext.laid h) (s.laid h) (.lst ⟨upd_same, fun z => s.tracked z h, fun z => (s.bt p z).1 h⟩ (r.ext s (Ext.laid h)))
theorem new_tup {ds : List D} {vs : List V} {p : Addr} {Q : VK} (s : SR G H ρ B S) (r : VRs G H ρ B ds vs) (h : H p = none) (q : ∀ v H', Ext H ρ H' ρ → SR G H' ρ B S → VR G H' ρ B (.tup ds) v → Q v H') : Q (.ref p) (upd H p (.tup vs)) :=
  q _ _ (Ext.laid h) (s.laid h) (.tup (SqT.of upd_same) (r.ext s (Ext.laid h)))
theorem bin_ok (hK : X.K = G.K) (op : Operator) : OpR X (binaryOp op) (rSem2 G (semBin op)) := by
  intro pins s σ H x y v u Q I rx ry h
  obtain ⟨ρ, B, S, a, b, d, sr, ta, tb, e, q⟩ := h
  unfold semBin at e
  split at e
  · cases e
    cases ta.intOf
    cases tb.intOf
    exact op_add pins s σ H _ _ v u Q I rx ry ⟨_, _, rfl, rfl, q _ _ Ext.refl sr (.int _)⟩
  · rename_i xs ys
    split at e
    · rename_i hz
      cases e
      obtain ⟨a1, vs, rfl, h1, r1⟩ := ta.tupOf
      obtain ⟨a2, us, rfl, h2, r2⟩ := tb.tupOf
      refine op_catA pins s σ H _ _ v u Q I rx ry ⟨a1, a2, vs, us, rfl, rfl, by rw [hK]; exact h1, by rw [hK]; exact h2, by rw [r1.length, r2.length]; exact hz, fun e => ?_, fun _ e => ?_, fun _ _ p hp => new_tup sr (r1.append r2) hp q⟩
      · subst e
        cases r1
        exact q _ _ Ext.refl sr (.tup h2 r2)
      · subst e
        cases r2
        rw [List.append_nil] at q
        exact q _ _ Ext.refl sr (.tup h1 r1)
    · cases e
  · rename_i xs ys
    split at e
    · rename_i hz
      cases e
      obtain ⟨a1, vs, rfl, h1, r1⟩ := ta.lstOf
      obtain ⟨a2, us, rfl, h2, r2⟩ := tb.lstOf
      exact op_cat pins s σ H _ _ v u Q I rx ry ⟨a1, a2, vs, us, rfl, rfl, h1, h2, by rw [r1.length, r2.length]; exact hz, fun p hp => new_lst sr (r1.append r2) hp q⟩
    · cases e
  · cases e
    cases ta.intOf
    cases tb.intOf
    exact op_sub pins s σ H _ _ v u Q I rx ry ⟨_, _, rfl, rfl, q _ _ Ext.refl sr (.int _)⟩
  · split at e
    · rename_i hz
      cases e
      cases ta.intOf
      cases tb.intOf
      exact op_mul pins s σ H _ _ v u Q I rx ry ⟨_, _, rfl, rfl, hz, q _ _ Ext.refl sr (.int _)⟩
    · cases e
  · rename_i xs k
    split at e
    · rename_i hz
      cases e
      obtain ⟨a1, vs, rfl, h1, r1⟩ := ta.lstOf
      cases tb.intOf
      exact op_rep pins s σ H _ _ v u Q I rx ry ⟨a1, k, vs, rfl, rfl, h1, by have := hz.1; omega, hz.2.1, by rw [r1.length]; exact hz.2.2, fun p hp => new_lst sr (r1.flat _) hp q⟩
    · cases e
  · rename_i xs k
    split at e
    · rename_i hz
      cases e
      obtain ⟨a1, vs, rfl, h1, r1⟩ := ta.tupOf
      cases tb.intOf
      have ne : vs ≠ [] := fun z => by
        have l := r1.length
        rw [z] at l
        cases xs with
        | nil => cases hz.1
        | cons _ _ => cases l
      exact op_repT pins s σ H _ _ v u Q I rx ry ⟨a1, k, vs, rfl, rfl, by rw [hK]; exact h1, ne, hz.2.1, hz.2.2.1, by rw [r1.length]; exact hz.2.2.2, fun p hp => new_tup sr (r1.flat _) hp q⟩
    · cases e
  · split at e
    · rename_i hz
      cases e
      cases ta.intOf
      cases tb.intOf
      exact op_fdiv pins s σ H _ _ v u Q I rx ry ⟨_, _, rfl, rfl, hz, q _ _ Ext.refl sr (.int _)⟩
    · cases e
  · split at e
    · rename_i hz
      cases e
      cases ta.intOf
      cases tb.intOf
      exact op_mod pins s σ H _ _ v u Q I rx ry ⟨_, _, rfl, rfl, hz, q _ _ Ext.refl sr (.int _)⟩
    · cases e
  · split at e
    · rename_i hz
      cases e
      cases ta.intOf
      cases tb.intOf
      exact op_pow pins s σ H _ _ v u Q I rx ry ⟨_, _, rfl, rfl, hz, q _ _ Ext.refl sr (.int _)⟩
    · cases e
  · cases e

mutual
theorem VR.dp : ∀ (d : D) (v : V) (p : PyData), VR G H ρ B d v → d.pd = some p → Dp G.K H v p
  | .non, _, _, .non, e => by cases e; exact .non
  | .bl _, _, _, .bl b, e => by cases e; exact .bl b
  | .int _, _, _, .int i, e => by cases e; exact .int i
  | .str _, _, _, .str x, e => by cases e; exact .str x
  | .tup ds, _, p, .tup (vs := vs) q r, e => by
    rw [D.pd] at e
    obtain ⟨ps, e1, e2⟩ := Option.map_eq_some_iff.mp e
    subst e2
    exact .tup q (VRs.dp ds vs ps r e1)
  | .lst ds, _, p, .lst (vs := vs) q r, e => by
    rw [D.pd] at e
    obtain ⟨ps, e1, e2⟩ := Option.map_eq_some_iff.mp e
    subst e2
    exact .lst (SqL.of q.1) (VRs.dp ds vs ps r e1)
  | .dct _, _, _, _, e => by rw [D.pd] at e; cases e
  | .ref _, _, _, _, e => by rw [D.pd] at e; cases e
  | .scr _, _, _, _, e => by rw [D.pd] at e; cases e
  | .kdc _, _, _, _, e => by rw [D.pd] at e; cases e
theorem VRs.dp : ∀ (ds : List D) (vs : List V) (ps : List PyData), VRs G H ρ B ds vs → pdAll ds = some ps → DpAll G.K H vs ps
  | [], _, _, .nil, e => by cases e; exact .nil
  | d :: ds, _, ps, .cons (v := v) (vs := vs) q r, e => by
    rw [pdAll] at e
    split at e
    · rename_i p qs e1 e2
      cases e
      exact .cons (VR.dp d v p q e1) (VRs.dp ds vs qs r e2)
    · cases e
end
theorem TR.dp {d : D} {v : V} {p : PyData} (t : TR G H ρ B d v) (e : d.pd = some p) : Dp G.K H v p := by
  cases t with
  | of r => exact VR.dp _ _ _ r e
  | lst h r =>
    rw [D.pd] at e
    obtain ⟨ps, e1, e2⟩ := Option.map_eq_some_iff.mp e
    subst e2
    exact .lst (SqL.of h) (VRs.dp _ _ ps r e1)
  | dct h r => rw [D.pd] at e; cases e
theorem TR.isN {d : D} {v : V} (t : TR G H ρ B d v) : decide (v = .non) = isNon d := by
  cases t with
  | of r => cases r <;> rfl
  | lst h r => rfl
  | dct h r => rfl
theorem cmp_ok (hK : X.K = G.K) (hu0 : X.A.units + 66 < cLine) (op : CmpOp) : OpR X (compareOp op) (rSem2 G fun a b => (semCmp op a b).map D.bl) := by
  intro pins s σ H x y v u Q I rx ry h
  obtain ⟨ρ, B, S, a, b, d, sr, ta, tb, e0, q⟩ := h
  obtain ⟨k, e, rfl⟩ := Option.map_eq_some_iff.mp e0
  clear e0
  have hu : X.A.units + 64 < cLine := by omega
  have inn : ∀ {k' : Bool}, semIn a b = some k' → (∀ Qv : Value → Shared → Prop, (∀ z, z = k' → Qv (.bool z) s) → wpAny (model X.prog X.w) X.A (compareOp .In v u) Qv X.xe s) ∧ ∀ Qv : Value → Shared → Prop, (∀ z, z = !k' → Qv (.bool z) s) → wpAny (model X.prog X.w) X.A (compareOp .NotIn v u) Qv X.xe s := by
    intro k' e
    unfold semIn at e
    split at e
    · rename_i p1 p2 e1 e2
      obtain ⟨as, r1⟩ := Dp.reads I p1 x v (by rw [hK]; exact ta.dp e1) rx
      obtain ⟨bs, r2⟩ := Dp.reads I p2 y u (by rw [hK]; exact tb.dp e2) ry
      split at e
      · rename_i ps
        split at e
        · rename_i hs
          rw [Bool.and_eq_true] at hs
          cases e
          exact ⟨fun Qv qv => SeqAt.in_list_reads r2 r1 (SeqAt.canLay_of_shaped hs.2) (SeqAt.canLay_of_shaped hs.1) (PyProof.Rows.room_in_shaped hs.1 (by omega)) (qv _ rfl), fun Qv qv => SeqAt.notIn_list_reads r2 r1 (SeqAt.canLay_of_shaped hs.2) (SeqAt.canLay_of_shaped hs.1) (PyProof.Rows.room_in_shaped hs.1 (by omega)) (qv _ rfl)⟩
        · cases e
      · rename_i ps
        split at e
        · rename_i hs
          rw [Bool.and_eq_true] at hs
          cases e
          exact ⟨fun Qv qv => SeqAt.in_tuple_reads r2 r1 (SeqAt.canLay_of_shaped hs.2) (SeqAt.canLay_of_shaped hs.1) (PyProof.Rows.room_in_shaped hs.1 (by omega)) (qv _ rfl), fun Qv qv => SeqAt.notIn_tuple_reads r2 r1 (SeqAt.canLay_of_shaped hs.2) (SeqAt.canLay_of_shaped hs.1) (PyProof.Rows.room_in_shaped hs.1 (by omega)) (qv _ rfl)⟩
        · cases e
      · cases e
    · cases e
  have fin : ∀ {k' : Bool}, k = k' → Q (.bl k') H := fun z => by subst z; exact q _ _ Ext.refl sr (.bl _)
  unfold semCmp at e
  split at e
  · cases ta.intOf; cases tb.intOf
    exact op_lt pins s σ H _ _ v u Q I rx ry ⟨_, _, rfl, rfl, fin (Option.some.inj e).symm⟩
  · cases ta.intOf; cases tb.intOf
    exact op_le pins s σ H _ _ v u Q I rx ry ⟨_, _, rfl, rfl, fin (Option.some.inj e).symm⟩
  · cases ta.intOf; cases tb.intOf
    exact op_gt pins s σ H _ _ v u Q I rx ry ⟨_, _, rfl, rfl, fin (Option.some.inj e).symm⟩
  · cases ta.intOf; cases tb.intOf
    exact op_ge pins s σ H _ _ v u Q I rx ry ⟨_, _, rfl, rfl, fin (Option.some.inj e).symm⟩
  · cases ta.intOf; cases tb.intOf
    exact op_eq pins s σ H _ _ v u Q I rx ry ⟨rfl, fin ((Option.some.inj e).symm.trans (Bool.eq_iff_iff.mpr (by simp)))⟩
  · cases ta.intOf; cases tb.intOf
    exact op_ne pins s σ H _ _ v u Q I rx ry ⟨rfl, fin ((Option.some.inj e).symm.trans (congrArg not (Bool.eq_iff_iff.mpr (by simp))))⟩
  · cases ta.strOf; cases tb.strOf
    exact op_eq pins s σ H _ _ v u Q I rx ry ⟨rfl, fin ((Option.some.inj e).symm.trans (Bool.eq_iff_iff.mpr (by simp)))⟩
  · cases ta.strOf; cases tb.strOf
    exact op_ne pins s σ H _ _ v u Q I rx ry ⟨rfl, fin ((Option.some.inj e).symm.trans (congrArg not (Bool.eq_iff_iff.mpr (by simp))))⟩
  · unfold semEq at e
    split at e
    · rename_i p1 p2 e1 e2
      split at e
      · rename_i hs
        rw [Bool.and_eq_true] at hs
        exact op_eqD hu pins s σ H _ _ v u Q I rx ry ⟨p1, p2, by rw [hK]; exact ta.dp e1, by rw [hK]; exact tb.dp e2, hs.1, hs.2, fin (Option.some.inj e).symm⟩
      · cases e
    · cases e
  · obtain ⟨k', e1, rfl⟩ := Option.map_eq_some_iff.mp e
    clear e
    have e := e1
    clear e1
    unfold semEq at e
    split at e
    · rename_i p1 p2 e1 e2
      split at e
      · rename_i hs
        rw [Bool.and_eq_true] at hs
        exact op_neD hu pins s σ H _ _ v u Q I rx ry ⟨p1, p2, by rw [hK]; exact ta.dp e1, by rw [hK]; exact tb.dp e2, hs.1, hs.2, fin (congrArg not (Option.some.inj e).symm)⟩
      · cases e
    · cases e
  · cases tb.nonOf
    exact op_isN pins s σ H _ _ v u Q I rx ry ⟨rfl, fin (by rw [ta.isN]; exact (Option.some.inj e).symm)⟩
  · cases tb.nonOf
    exact op_notN pins s σ H _ _ v u Q I rx ry ⟨rfl, fin (by rw [ta.isN]; exact (Option.some.inj e).symm)⟩
  · exact (inn e).1 _ fun z hz => ⟨.bl z, H, I, rfl, fin hz.symm⟩
  · obtain ⟨k', e1, e2⟩ := Option.map_eq_some_iff.mp e
    exact (inn e1).2 _ fun z hz => ⟨.bl z, H, I, rfl, fin (by rw [hz]; exact e2.symm)⟩
  · cases e

/-! ### built-in functions and types -/
def biName : Bi → Str
  | .len => "len" | .abs => "abs" | .min => "min" | .max => "max" | .int => "int" | .tuple => "tuple" | .list => "list" | .sum => "sum" | .any => "any" | .all => "all" | .repr => "repr" | .bool => "bool"
def biVal : Bi → Value
  | .len => .builtin "len" | .abs => .builtin "abs" | .min => .builtin "min" | .max => .builtin "max" | .int => .type "int" | .tuple => .type "tuple" | .list => .type "list" | .sum => .builtin "sum" | .any => .builtin "any" | .all => .builtin "all" | .repr => .builtin "repr" | .bool => .type "bool"
def rBi (G : Cr) (f : Bi) : List V → Hp → VK → Prop := fun xs H Q => ∃ ρ B S ds d, SR G H ρ B S ∧ TRs G H ρ B ds xs ∧ semBi f ds = some d ∧ ∀ v H', Ext H ρ H' ρ → SR G H' ρ B S → VR G H' ρ B d v → Q v H'
theorem TRs.one {d : D} {xs : List V} (t : TRs G H ρ B [d] xs) : ∃ x, xs = [x] ∧ TR G H ρ B d x := by
  cases t with
  | cons a b => cases b; exact ⟨_, rfl, a⟩
theorem TRs.two {d e : D} {xs : List V} (t : TRs G H ρ B [d, e] xs) : ∃ x y, xs = [x, y] ∧ TR G H ρ B d x ∧ TR G H ρ B e y := by
  cases t with
  | cons a b => cases b with | cons b c => cases c; exact ⟨_, _, rfl, a, b⟩
theorem TRs.three {d e f : D} {xs : List V} (t : TRs G H ρ B [d, e, f] xs) : ∃ x y z, xs = [x, y, z] ∧ TR G H ρ B d x ∧ TR G H ρ B e y ∧ TR G H ρ B f z := by
  cases t with
  | cons a b => cases b with | cons b c => cases c with | cons c d => cases d; exact ⟨_, _, _, rfl, a, b, c⟩
theorem call_repr_any {pins : List (Addr × Obj)} {s : Shared} {σ : St} {p : PyData} {x : V} {u : Value} {Q : VK} (hK : X.K = G.K) (hg : X.A.guards = some []) (hu : X.A.units + 66 < cLine) (I : Inv X pins σ H s) (r : RelV x u) (hd : Dp X.K H x p)
    (h1 : p.showable = true) (h2 : p.shown.length ≤ sizeLine) (h3 : p.depth ≤ 64) (h4 : p.hasDict = false) (q : Q (.str p.shown) H) : wpAny (model X.prog X.w) X.A (call (.builtin "repr") [u]) (EP X pins σ Q) X.xe s := by
  cases hd with
  | non => cases r; exact PySem.P.repr_of_none ⟨.str _, H, I.tok _, ⟨_, rfl⟩, q⟩
  | bl b => cases r; exact PySem.P.repr_of_bool ⟨.str _, H, I.tok _, ⟨_, rfl⟩, by cases b <;> exact q⟩
  | int i => obtain ⟨t, rfl⟩ := r; exact PySem.P.repr_of_int (by simpa [PyData.showable] using h1) ⟨.str _, H, I.tok _, ⟨_, rfl⟩, q⟩
  | str y => obtain ⟨t, rfl⟩ := r; exact PySem.P.repr_of_str ⟨.str _, H, I.tok _, ⟨_, rfl⟩, q⟩ h2
  | @lst a xs ds hl hr =>
    cases r
    obtain ⟨as, rd⟩ := Dp.reads I _ (.ref a) _ (.lst hl hr) rfl
    exact repr_of_reads' rd h1 (fun z => by rw [h4] at z; cases z) hg (by omega) (fun _ _ e => e) (fun h' u tk kp => ⟨.str _, H, I.kept kp, ⟨_, rfl⟩, q⟩) h2
  | @tup a xs ds hl hr =>
    cases r
    obtain ⟨as, rd⟩ := Dp.reads I _ (.ref a) _ (.tup hl hr) rfl
    exact repr_of_reads' rd h1 (fun z => by rw [h4] at z; cases z) hg (by omega) (fun _ _ e => e) (fun h' u tk kp => ⟨.str _, H, I.kept kp, ⟨_, rfl⟩, q⟩) h2
mutual
theorem pd_noDict : ∀ (d : D) (p : PyData), d.pd = some p → p.hasDict = false
  | .non, _, e => by cases e; rfl
  | .bl _, _, e => by cases e; rfl
  | .int _, _, e => by cases e; rfl
  | .str _, _, e => by cases e; rfl
  | .tup ds, p, e => by
    rw [D.pd] at e
    obtain ⟨ps, e1, e2⟩ := Option.map_eq_some_iff.mp e
    subst e2
    exact pdAll_noDict ds ps e1
  | .lst ds, p, e => by
    rw [D.pd] at e
    obtain ⟨ps, e1, e2⟩ := Option.map_eq_some_iff.mp e
    subst e2
    exact pdAll_noDict ds ps e1
  | .dct _, _, e => by rw [D.pd] at e; cases e
  | .ref _, _, e => by rw [D.pd] at e; cases e
  | .scr _, _, e => by rw [D.pd] at e; cases e
  | .kdc _, _, e => by rw [D.pd] at e; cases e
theorem pdAll_noDict : ∀ (ds : List D) (ps : List PyData), pdAll ds = some ps → PyData.hasDictAll ps = false
  | [], _, e => by cases e; rfl
  | d :: ds, ps, e => by
    rw [pdAll] at e
    split at e
    · rename_i p qs e1 e2
      cases e
      show (p.hasDict || PyData.hasDictAll qs) = false
      rw [pd_noDict d p e1, pdAll_noDict ds qs e2]
      rfl
    · cases e
end
theorem dk_empty {pins : List (Addr × Obj)} {s : Shared} {σ : St} {a : Addr} (I : Inv X pins σ H s) (h : H a = some (.dK [])) : ∃ as, Reads s.heap (.ref a) (.dict []) as ∧ sysModules ∉ as := by
  obtain ⟨_, ns, vs, kv, o, es, ep, h1, h2, h3, h4, h5, h6⟩ := dk_of I.hok h
  cases kv
  have e0 : es.toList = [] := by
    cases q : es.toList with
    | nil => rfl
    | cons z r => rw [q] at h5; cases h5
  refine ⟨_, Reads.dict h1 h2.1 h3 (by rw [e0]; exact .nil) (by rw [e0]; exact .nil), ?_⟩
  intro z
  simp only [List.append_nil, List.mem_cons, List.not_mem_nil, or_false] at z
  rw [← z] at ns
  exact absurd ns (by decide)
mutual
theorem VR.rd {pins : List (Addr × Obj)} {s : Shared} {σ : St} (hK : X.K = G.K) (I : Inv X pins σ H s) : ∀ (d : D) (v : V) (p : PyData) (u : Value), VR G H ρ B d v → d.sd = some p → RelV v u → ∃ as, Reads s.heap u p as ∧ sysModules ∉ as
  | .non, _, _, _, .non, e, r => by cases e; cases r; exact ⟨_, Reads.none, by simp⟩
  | .bl _, _, _, _, .bl b, e, r => by cases e; cases r; exact ⟨_, Reads.bool b, by simp⟩
  | .int _, _, _, _, .int i, e, r => by cases e; obtain ⟨t, rfl⟩ := r; exact ⟨_, Reads.int i t, by simp⟩
  | .str _, _, _, _, .str x, e, r => by cases e; obtain ⟨t, rfl⟩ := r; exact ⟨_, Reads.str x t, by simp⟩
  | .tup ds, _, p, _, .tup (vs := vs) q r, e, rv => by
    rw [D.sd] at e
    obtain ⟨ps, e1, e2⟩ := Option.map_eq_some_iff.mp e
    subst e2
    cases rv
    obtain ⟨its, rv, ⟨o, ho, hc, n, hd⟩, _⟩ := I.tuple (by rw [hK]; exact q)
    obtain ⟨as, h1, h2⟩ := VRs.rd hK I ds vs ps its r e1 rv
    exact ⟨_, Reads.tuple ho hc hd h1, h2⟩
  | .dct [], _, p, _, .dct (vs := vs) q r, e, rv => by
    cases e
    cases rv
    cases r
    exact dk_empty I q.1
  | .dct (_ :: _), _, _, _, _, e, _ => by simp [D.sd] at e
  | .lst _, _, _, _, _, e, _ => by simp [D.sd] at e
  | .ref _, _, _, _, _, e, _ => by simp [D.sd] at e
  | .scr _, _, _, _, _, e, _ => by simp [D.sd] at e
  | .kdc _, _, _, _, _, e, _ => by simp [D.sd] at e
theorem VRs.rd {pins : List (Addr × Obj)} {s : Shared} {σ : St} (hK : X.K = G.K) (I : Inv X pins σ H s) : ∀ (ds : List D) (vs : List V) (ps : List PyData) (us : List Value), VRs G H ρ B ds vs → sdAll ds = some ps → Vals vs us → ∃ as, ReadsAll s.heap us ps as ∧ sysModules ∉ as
  | [], _, _, _, .nil, e, r => by cases e; cases r; exact ⟨_, ReadsAll.nil, by simp⟩
  | d :: ds, _, ps, _, .cons (v := v) (vs := vs) q r, e, rv => by
    rw [sdAll] at e
    split at e
    · rename_i p qs e1 e2
      cases e
      cases rv with
      | cons r1 r2 =>
        obtain ⟨as, h1, h2⟩ := VR.rd hK I d v p _ q e1 r1
        obtain ⟨bs, h3, h4⟩ := VRs.rd hK I ds vs qs _ r e2 r2
        exact ⟨_, ReadsAll.cons h1 h3, by rw [List.mem_append]; exact fun z => z.elim h2 h4⟩
    · cases e
end
theorem TR.rd {pins : List (Addr × Obj)} {s : Shared} {σ : St} {d : D} {v : V} {p : PyData} {u : Value} (hK : X.K = G.K) (I : Inv X pins σ H s) (t : TR G H ρ B d v) (e : d.sd = some p) (r : RelV v u) : ∃ as, Reads s.heap u p as ∧ sysModules ∉ as := by
  cases t with
  | of q => exact VR.rd hK I _ _ _ _ q e r
  | lst h q => simp [D.sd] at e
  | @dct a ds vs h q =>
    cases ds with
    | nil => cases e; cases r; cases q; exact dk_empty I h
    | cons z zs => simp [D.sd] at e
theorem sd_ref {d : D} {v : V} {p : PyData} (t : TR G H ρ B d v) (e : d.sd = some p) (n : d.pd = none) : ∃ a, v = .ref a := by
  cases t with
  | of q =>
    cases q <;> first | exact ⟨_, rfl⟩ | (rw [D.pd] at n; cases n; done)
  | lst h q => exact ⟨_, rfl⟩
  | dct h q => exact ⟨_, rfl⟩
theorem min3_of (i j k : Int) : nuMin3 (.int i) (.int j) (.int k) = some (.int (if k < (if j < i then j else i) then k else (if j < i then j else i))) := by
  show ((some (decide (j < i))).map fun c => if c = true then V.int j else V.int i).bind (fun m => (nuLt (.int k) m).map fun c => if c = true then V.int k else m) = _
  by_cases h1 : j < i
  · rw [if_pos h1]
    simp only [h1, decide_true, Option.map_some, Option.bind_some, if_true]
    show some (if decide (k < j) = true then V.int k else V.int j) = _
    by_cases h2 : k < j <;> simp [h2]
  · rw [if_neg h1]
    simp only [h1, decide_false, Option.map_some, Option.bind_some, Bool.false_eq_true, if_false]
    show some (if decide (k < i) = true then V.int k else V.int i) = _
    by_cases h2 : k < i <;> simp [h2]
theorem max3_of (i j k : Int) : nuMax3 (.int i) (.int j) (.int k) = some (.int (if k > (if j > i then j else i) then k else (if j > i then j else i))) := by
  show ((some (decide (i < j))).map fun c => if c = true then V.int j else V.int i).bind (fun m => (nuLt m (.int k)).map fun c => if c = true then V.int k else m) = _
  by_cases h1 : i < j
  · rw [if_pos h1]
    simp only [h1, decide_true, Option.map_some, Option.bind_some, if_true]
    show some (if decide (j < k) = true then V.int k else V.int j) = _
    by_cases h2 : j < k <;> simp [h2]
  · rw [if_neg h1]
    simp only [h1, decide_false, Option.map_some, Option.bind_some, Bool.false_eq_true, if_false]
    show some (if decide (i < k) = true then V.int k else V.int i) = _
    by_cases h2 : i < k <;> simp [h2]
theorem bi_ok (hK : X.K = G.K) (hc : X.calm = true) (hg : X.A.guards = some []) (hu : X.A.units + 66 < cLine) (f : Bi) : CallR X (biVal f) (rBi G f) := by
  intro pins s σ H xs us Q I r h
  obtain ⟨ρ, B, S, ds, d, sr, ts, e, q⟩ := h
  unfold semBi at e
  split at e
  · obtain ⟨x, rfl, t⟩ := ts.one
    cases e
    obtain ⟨a, vs, rfl, h1, r1⟩ := t.lstOf
    exact call_len pins s σ H _ us Q I r ⟨_, _, rfl, .inl ⟨vs, SqL.of h1, rfl⟩, by rw [r1.length]; exact q _ _ Ext.refl sr (.int _)⟩
  · obtain ⟨x, rfl, t⟩ := ts.one
    cases e
    obtain ⟨a, vs, rfl, h1, r1⟩ := t.tupOf
    exact call_len pins s σ H _ us Q I r ⟨_, _, rfl, .inr ⟨vs, by rw [hK]; exact h1, rfl⟩, by rw [r1.length]; exact q _ _ Ext.refl sr (.int _)⟩
  · obtain ⟨x, rfl, t⟩ := ts.one
    cases e
    cases t.intOf
    exact call_abs pins s σ H _ us Q I r ⟨_, rfl, q _ _ Ext.refl sr (.int _)⟩
  · obtain ⟨x, y, rfl, t1, t2⟩ := ts.two
    cases e
    cases t1.intOf; cases t2.intOf
    exact call_min2 hc pins s σ H _ us Q I r ⟨_, _, rfl, q _ _ Ext.refl sr (.int _)⟩
  · obtain ⟨x, y, rfl, t1, t2⟩ := ts.two
    cases e
    cases t1.intOf; cases t2.intOf
    exact call_max2 hc pins s σ H _ us Q I r ⟨_, _, rfl, q _ _ Ext.refl sr (.int _)⟩
  · obtain ⟨x, y, z, rfl, t1, t2, t3⟩ := ts.three
    cases e
    cases t1.intOf; cases t2.intOf; cases t3.intOf
    exact call_min3Nu hc pins s σ H _ us Q I r ⟨_, _, _, _, rfl, min3_of _ _ _, q _ _ Ext.refl sr (.int _)⟩
  · obtain ⟨x, y, z, rfl, t1, t2, t3⟩ := ts.three
    cases e
    cases t1.intOf; cases t2.intOf; cases t3.intOf
    exact call_max3Nu hc pins s σ H _ us Q I r ⟨_, _, _, _, rfl, max3_of _ _ _, q _ _ Ext.refl sr (.int _)⟩
  · obtain ⟨x, rfl, t⟩ := ts.one
    cases e
    cases t.blOf
    exact call_int1 pins s σ H _ us Q I r (.inr ⟨_, rfl, q _ _ Ext.refl sr (.int _)⟩)
  · obtain ⟨x, rfl, t⟩ := ts.one
    cases e
    cases t.intOf
    exact call_int1 pins s σ H _ us Q I r (.inl ⟨_, rfl, q _ _ Ext.refl sr (.int _)⟩)
  · obtain ⟨x, rfl, t⟩ := ts.one
    cases e
    obtain ⟨a, vs, rfl, h1, r1⟩ := t.lstOf
    exact call_tuple_of pins s σ H _ us Q I r ⟨_, _, rfl, .inl ⟨SqL.of h1, fun p hp => new_tup sr r1 hp q⟩⟩
  · obtain ⟨x, rfl, t⟩ := ts.one
    cases e
    obtain ⟨a, vs, rfl, h1, r1⟩ := t.tupOf
    exact call_tuple_of pins s σ H _ us Q I r ⟨_, _, rfl, .inr ⟨by rw [hK]; exact h1, q _ _ Ext.refl sr (.tup h1 r1)⟩⟩
  · obtain ⟨x, rfl, t⟩ := ts.one
    cases e
    obtain ⟨a, vs, rfl, h1, r1⟩ := t.lstOf
    exact call_list_of pins s σ H _ us Q I r ⟨_, _, rfl, .inl (SqL.of h1), fun p hp => new_lst sr r1 hp q⟩
  · obtain ⟨x, rfl, t⟩ := ts.one
    cases e
    obtain ⟨a, vs, rfl, h1, r1⟩ := t.tupOf
    exact call_list_of pins s σ H _ us Q I r ⟨_, _, rfl, .inr (by rw [hK]; exact h1), fun p hp => new_lst sr r1 hp q⟩
  · obtain ⟨x, rfl, t⟩ := ts.one
    obtain ⟨ns, e1, rfl⟩ := Option.map_eq_some_iff.mp e
    obtain ⟨a, vs, rfl, h1, r1⟩ := t.lstOf
    rw [r1.ints e1] at h1
    exact cr_sum hc pins s σ H _ us Q I r ⟨a, ns, rfl, SqL.of h1, q _ _ Ext.refl sr (.int _)⟩
  · obtain ⟨x, rfl, t⟩ := ts.one
    obtain ⟨ns, e1, rfl⟩ := Option.map_eq_some_iff.mp e
    obtain ⟨a, vs, rfl, h1, r1⟩ := t.lstOf
    rw [r1.bools e1] at h1
    exact cr_any hc pins s σ H _ us Q I r ⟨a, ns, rfl, SqL.of h1, q _ _ Ext.refl sr (.bl _)⟩
  · obtain ⟨x, rfl, t⟩ := ts.one
    obtain ⟨ns, e1, rfl⟩ := Option.map_eq_some_iff.mp e
    obtain ⟨a, vs, rfl, h1, r1⟩ := t.lstOf
    rw [r1.bools e1] at h1
    exact cr_all hc pins s σ H _ us Q I r ⟨a, ns, rfl, SqL.of h1, q _ _ Ext.refl sr (.bl _)⟩
  · obtain ⟨x, rfl, t⟩ := ts.one
    cases e
    cases t.intOf
    exact call_bool1 pins s σ H _ us Q I r (.inl ⟨_, rfl, q _ _ Ext.refl sr (.bl _)⟩)
  · obtain ⟨x, rfl, t⟩ := ts.one
    cases e
    cases t.blOf
    exact call_bool1 pins s σ H _ us Q I r (.inr ⟨_, rfl, q _ _ Ext.refl sr (.bl _)⟩)
  · obtain ⟨x, rfl, t⟩ := ts.one
    split at e
    · rename_i p ep
      split at e
      · rename_i hz
        simp only [Bool.and_eq_true, decide_eq_true_eq] at hz
        cases e
        obtain ⟨u, rfl, ru⟩ := vals1 r
        exact call_repr_any hK hg hu I ru (by rw [hK]; exact t.dp ep) hz.1.1 hz.1.2 hz.2 (pd_noDict _ _ ep) (q _ _ Ext.refl sr (.str _))
      · cases e
    · rename_i en
      split at e
      · rename_i p ep
        split at e
        · rename_i hz
          simp only [Bool.and_eq_true, decide_eq_true_eq] at hz
          cases e
          obtain ⟨u, rfl, ru⟩ := vals1 r
          obtain ⟨a, rfl⟩ := sd_ref t ep en
          obtain ⟨as, rd, na⟩ := TR.rd hK I t ep ru
          cases ru
          exact repr_of_reads' rd hz.1.1 (fun _ => na) hg (by omega) (fun _ _ e => e) (fun h' u tk kp => ⟨.str _, H, I.kept kp, ⟨_, rfl⟩, q _ _ Ext.refl sr (.str _)⟩) hz.1.2
        · cases e
      · cases e
  · cases e

/-! ### subscripts -/
theorem ixN_of {α β : Type} {xs : List α} {ys : List β} {i : Int} (h : xs.length = ys.length) : ixN xs.length i = ixN ys.length i := by rw [h]
theorem VRs.atI {ds : List D} {vs : List V} {i : Int} {d : D} (r : VRs G H ρ B ds vs) (e : L2.atI ds i = some d) : ∃ v, L2.atI vs i = some v ∧ VR G H ρ B d v := by
  unfold L2.atI at e ⊢
  rw [r.length]
  cases q : ixN ds.length i with
  | none => rw [q] at e; cases e
  | some j =>
    rw [q] at e
    exact r.get e
theorem vsc_vr {d : D} {v : V} (h : VSc d v) : VR G H ρ B d v := by
  cases d <;> first | (cases h; constructor) | exact False.elim h
theorem ix_ok (hK : X.K = G.K) (hw : X.w = G.w) (hu : X.A.units + 1 < cLine) : IxR X (rSem2 G semIx) := by
  intro value slice pins s σ H x y v u Q I rx ry h hs
  obtain ⟨ρ, B, S, a, b, d, sr, ta, tb, e, q⟩ := h
  unfold semIx at e
  split at e
  · obtain ⟨a1, vs, rfl, h1, r1⟩ := ta.lstOf
    cases tb.intOf
    obtain ⟨z, e1, rz⟩ := r1.atI e
    exact ix_list value slice pins s σ H _ _ v u Q I rx ry ⟨_, _, _, _, rfl, rfl, SqL.of h1, e1, q _ _ Ext.refl sr rz⟩ hs
  · obtain ⟨a1, vs, rfl, h1, r1⟩ := ta.tupOf
    cases tb.intOf
    obtain ⟨z, e1, rz⟩ := r1.atI e
    exact ix_tup value slice pins s σ H _ _ v u Q I rx ry ⟨_, _, _, _, rfl, rfl, by rw [hK]; exact h1, e1, q _ _ Ext.refl sr rz⟩ hs
  · rename_i kvs
    split at e
    · rename_i k' ek
      obtain ⟨a1, vs, rfl, h1, r1⟩ := ta.dctOf
      obtain ⟨z, e1, rz⟩ := r1.lk e
      have hy : y = kV k' := by
        cases b with
        | int i => cases ek; exact tb.intOf
        | str i => cases ek; exact tb.strOf
        | _ => cases ek
      subst hy
      cases rx
      have g : DGet H a1 (kV k') (some z) := by rw [← e1]; exact DGet.k h1
      exact PyProof.Rows.tail_any (dict_typeIs I g) PySem.F.slot_dict_getitem.lookup (d_getItem hu I g ry fun w' s' I' rw' => ⟨z, H, I', rw', q _ _ Ext.refl sr rz⟩) hs
    · cases e
  · rename_i kvs z
    cases tb.strOf
    cases ta with
    | of r =>
      cases r with
      | kdc kd =>
        obtain ⟨es, n, h1, h2, _, h3, _⟩ := kd
        obtain ⟨u0, v0, e1, e2, e3⟩ := h3 _ _ e
        exact ix_kdict value slice pins s σ H _ _ v u Q I rx ry ⟨_, _, _, rfl, rfl, ⟨es, n, u0, by rw [hK]; exact h1, by rw [hw]; exact h2, by rw [hK]; exact e1, e2⟩, q _ _ Ext.refl sr (vsc_vr e3)⟩ hs
  · cases e
end
end Wf
set_option Elab.async false
set_option linter.all false
namespace Wf
open PySem L2

/-! ### readings by the evaluator -/
/-- a new object's content -/
inductive FO (G : Cr) (H : Hp) (ρ B : List Addr) : D → HO → Prop
  | lst {ds : List D} {vs : List V} : VRs G H ρ B ds vs → FO G H ρ B (.lst ds) (.lst vs)
  | dct {ds : List (Key × D)} {vs : List (Key × V)} : VRk G H ρ B ds vs → FO G H ρ B (.dct ds) (.dK vs)
def isT : D → Bool
  | .tup _ => true
  | _ => false
/-- the end of what makes a list or a dict (or, of tuples, any tuple) -/
structure Fin (G : Cr) (H : Hp) (ρ B : List Addr) (S : Sto) (d : D) (Q : VK) : Prop where
  new : ∀ p o, H p = none → FO G H ρ B d o → Q (.ref p) (upd H p o)
  tup : ∀ v H', Ext H ρ H' ρ → SR G H' ρ B S → VR G H' ρ B d v → isT d = true → Q v H'
variable (G : Cr) (C : Orc)
def tE (ex : E) : TE := fun σ H Q => ∃ env S ρ B B0 d S', SR G H ρ B S ∧ ER G H ρ B B0 σ env ∧ evE C ex env S = some (d, S') ∧ ∀ v H' ρ', Ext H ρ H' ρ' → SR G H' ρ' B S' → VR G H' ρ' B d v → Q v H'
def tF (ex : E) : TE := fun σ H Q => ∃ env S ρ B B0 d S', SR G H ρ B S ∧ ER G H ρ B B0 σ env ∧ evE C ex env S = some (d, S') ∧ ∀ H' ρ', Ext H ρ H' ρ' → SR G H' ρ' B S' → Fin G H' ρ' B S' d Q
def tP (p : P) : TE := fun σ H Q => ∃ env S ρ B B0 d S', SR G H ρ B S ∧ ER G H ρ B B0 σ env ∧ evP C p env S = some (d, S') ∧ ∀ v H' ρ', Ext H ρ H' ρ' → SR G H' ρ' B S' → PR G H' ρ' B d v → Q v H'
def tT (ex : E) : TT := fun σ H Q => ∃ env S ρ B B0 b S', SR G H ρ B S ∧ ER G H ρ B B0 σ env ∧ evE C ex env S = some (.bl b, S') ∧ ∀ H' ρ', Ext H ρ H' ρ' → SR G H' ρ' B S' → Q b H'
def tEs (es : Es) : TA := fun σ H Q => ∃ env S ρ B B0 ds S', SR G H ρ B S ∧ ER G H ρ B B0 σ env ∧ evEs C es env S = some (ds, S') ∧ ∀ vs H' ρ', Ext H ρ H' ρ' → SR G H' ρ' B S' → VRs G H' ρ' B ds vs → Q vs H'
def tQs (es : Qs) : TA := fun σ H Q => ∃ env S ρ B B0 ds S', SR G H ρ B S ∧ ER G H ρ B B0 σ env ∧ evQs C es env S = some (ds, S') ∧ ∀ vs H' ρ', Ext H ρ H' ρ' → SR G H' ρ' B S' → PRs G H' ρ' B ds vs → Q vs H'
variable {G C}

theorem impE {X : Cx} {e : Expr} {t u : TE} (h : PE X e t) (f : ∀ σ H Q, u σ H Q → t σ H Q) : PE X e u := ⟨fun pins s σ H Q I w => h.run pins s σ H Q I (f σ H Q w)⟩
theorem impT {X : Cx} {e : Expr} {t u : TT} (h : PT X e t) (f : ∀ σ H Q, u σ H Q → t σ H Q) : PT X e u := ⟨fun pins s σ H Q I w => h.run pins s σ H Q I (f σ H Q w)⟩
theorem impA {X : Cx} {e : List Expr} {t u : TA} (h : PA X e t) (f : ∀ σ H Q, u σ H Q → t σ H Q) : PA X e u := ⟨fun pos pins s σ H Q I w => h.run pos pins s σ H Q I (f σ H Q w)⟩

theorem Fin.of {H : Hp} {ρ B : List Addr} {S : Sto} {d : D} {Q : VK} (s : SR G H ρ B S) (q : ∀ v H', Ext H ρ H' ρ → SR G H' ρ B S → VR G H' ρ B d v → Q v H') : Fin G H ρ B S d Q := by
  refine ⟨fun p o hp f => ?_, fun v H' e s' r _ => q v H' e s' r⟩
  cases f with
  | lst r => exact new_lst s r hp q
  | dct r => exact q _ _ (Ext.laid hp) (s.laid hp) (.dct ⟨upd_same, fun z => s.tracked z hp, fun z => (s.bt p z).1 hp⟩ (VRk.mono ((Ext.laid hp).keeps s) _ _ r))
section
variable {X : Cx} {e a b c : Expr} {ex ea eb ec : E} {pa pb : P} {pos : Pos}
theorem tE.f (h : PE X e (tF G C ex)) : PE X e (tE G C ex) := impE h fun σ H Q ⟨env, S, ρ, B, B0, d, S', s, er, ev, q⟩ =>
  ⟨env, S, ρ, B, B0, d, S', s, er, ev, fun H' ρ' x s' => Fin.of s' fun v H2 x2 s2 r => q v H2 ρ' (x.trans x2) s2 r⟩
theorem tP.of (h : PE X e (tE G C ex)) : PE X e (tP G C (.e ex)) := impE h fun σ H Q ⟨env, S, ρ, B, B0, d, S', s, er, ev, q⟩ =>
  ⟨env, S, ρ, B, B0, d, S', s, er, ev, fun v H' ρ' x s' r => q v H' ρ' x s' (.of r)⟩
/-- a value that is a bool, as a test -/
theorem tT.val (h : PE X e (tE G C ex)) (he : ∀ whole, isTrue e X.env whole = (do let v ← whole; standAt e.pos; holding [v] (truthy v))) : PT X e (tT G C ex) := impT (pt_val h he) fun σ H Q ⟨env, S, ρ, B, B0, b, S', s, er, ev, q⟩ =>
  ⟨env, S, ρ, B, B0, _, S', s, er, ev, fun v H' ρ' x s' r => by cases r; exact ⟨b, rfl, q H' ρ' x s'⟩⟩

/-- two operands, one behind the other -/
theorem two {σ : St} {H : Hp} {R : V → V → Hp → Prop} {env : Env} {S S1 S2 : Sto} {ρ B B0 : List Addr} {d1 d2 : D} (s : SR G H ρ B S) (er : ER G H ρ B B0 σ env) (e1 : evP C pa env S = some (d1, S1)) (e2 : evP C pb env S1 = some (d2, S2))
    (q : ∀ x y H2 ρ2, Ext H ρ H2 ρ2 → SR G H2 ρ2 B S2 → PR G H2 ρ2 B d1 x → PR G H2 ρ2 B d2 y → R x y H2) : tP G C pa σ H fun x H1 => tP G C pb σ H1 fun y H2 => R x y H2 :=
  ⟨env, S, ρ, B, B0, d1, S1, s, er, e1, fun x H1 ρ1 x1 s1 r1 => ⟨env, S1, ρ1, B, B0, d2, S2, s1, er.ext s x1, e2, fun y H2 ρ2 x2 s2 r2 => q x y H2 ρ2 (x1.trans x2) s2 (r1.ext s1 x2) r2⟩⟩

/-! ### expressions -/
theorem bind2 {α β γ : Type} {x : Option α} {f : α → Option β} {g : α → β → Option γ} {z : γ} (h : (x.bind fun p => (f p).bind fun q => g p q) = some z) : ∃ p q, x = some p ∧ f p = some q ∧ g p q = some z := by
  cases x with
  | none => cases h
  | some p =>
    cases e : f p with
    | none => rw [Option.bind_some, e] at h; cases h
    | some q => rw [Option.bind_some, e] at h; exact ⟨p, q, rfl, e, h⟩
theorem sim_k_int {i : Int} {j : Nat} : PE X (.Constant (.int i) j pos) (tE G C (.k (.int i))) := impE pe_int fun σ H Q ⟨env, S, ρ, B, B0, d, S', s, er, ev, q⟩ => by cases ev; exact q _ _ _ Ext.refl s (.int i)
theorem sim_k_bl {i : Bool} {j : Nat} : PE X (.Constant (.bool i) j pos) (tE G C (.k (.bl i))) := impE pe_bl fun σ H Q ⟨env, S, ρ, B, B0, d, S', s, er, ev, q⟩ => by cases ev; exact q _ _ _ Ext.refl s (.bl i)
theorem sim_k_str {i : Str} {j : Nat} : PE X (.Constant (.str i) j pos) (tE G C (.k (.str i))) := impE pe_str fun σ H Q ⟨env, S, ρ, B, B0, d, S', s, er, ev, q⟩ => by cases ev; exact q _ _ _ Ext.refl s (.str i)
theorem sim_k_non {j : Nat} : PE X (.Constant .none j pos) (tE G C (.k .non)) := impE pe_non fun σ H Q ⟨env, S, ρ, B, B0, d, S', s, er, ev, q⟩ => by cases ev; exact q _ _ _ Ext.refl s .non
theorem sim_v {i : Nat} {x : Str} (hN : X.N[i]? = some x) (hv : Vis X.env.scope x) (hd : (x == ("__debug__" : Str)) = false) (hcd : (x == ("__classdict__" : Str)) = false) : PE X (.Name x pos) (tE G C (.v i)) :=
  impE (pe_var hN hv hd hcd) fun σ H Q ⟨env, S, ρ, B, B0, d, S', s, er, ev, q⟩ => by
    rw [evE] at ev
    obtain ⟨d', e1, e2⟩ := Option.map_eq_some_iff.mp ev
    cases e2
    obtain ⟨v, e, r⟩ := er.get e1
    exact ⟨v, e, q _ _ _ Ext.refl s r⟩
theorem sim_pk {i : Nat} {x : Str} (hN : X.N[i]? = some x) (hv : Vis X.env.scope x) (hd : (x == ("__debug__" : Str)) = false) (hcd : (x == ("__classdict__" : Str)) = false) : PE X (.Name x pos) (tP G C (.pk i)) :=
  impE (pe_var hN hv hd hcd) fun σ H Q ⟨env, S, ρ, B, B0, d, S', s, er, ev, q⟩ => by
    rw [evP] at ev
    obtain ⟨d', e1, e2⟩ := Option.map_eq_some_iff.mp ev
    cases e2
    obtain ⟨v, e, r⟩ := er.peek e1
    exact ⟨v, e, q _ _ _ Ext.refl s r⟩
theorem sim_gl {d : D} {x : Str} {u : Value} {v : V} (hg : Gl X x) (hm : X.mg x = some u) (hr : RelV v u) (hv : ∀ H ρ B, VR G H ρ B d v) (hd : (x == ("__debug__" : Str)) = false) : PE X (.Name x pos) (tE G C (.gl d)) :=
  impE (pe_glob hg hm hr hd) fun σ H Q ⟨env, S, ρ, B, B0, d', S', s, er, ev, q⟩ => by
    rw [evE] at ev
    cases ev
    exact q _ _ _ Ext.refl s (hv _ _ _)
theorem sim_bin (hK : X.K = G.K) {op : Operator} (ha : PE X a (tE G C ea)) (hb : PE X b (tE G C eb)) : PE X (.BinOp a op b pos) (tE G C (.bin op ea eb)) :=
  impE (pe_op (bin_ok hK op) (tP.of ha) (tP.of hb)) fun σ H Q ⟨env, S, ρ, B, B0, d, S', s, er, ev, q⟩ => by
    rw [evE] at ev
    obtain ⟨⟨d1, S1⟩, ⟨d2, S2⟩, e1, e2, e3⟩ := bind2 ev
    obtain ⟨z, e4, e5⟩ := Option.map_eq_some_iff.mp e3
    cases e5
    exact two s er (pa := .e ea) (pb := .e eb) e1 e2 fun x y H2 ρ2 x2 s2 r1 r2 => ⟨ρ2, B, S2, _, _, _, s2, r1.top s2, r2.top s2, e4, fun v H3 x3 s3 r3 => q v H3 ρ2 (x2.trans x3) s3 r3⟩
theorem cmp_reads {op : CmpOp} {σ : St} {H : Hp} {Q : VK} : tE G C (.cmp op pa pb) σ H Q → tOp (rSem2 G fun a b => (semCmp op a b).map D.bl) (tP G C pa) (tP G C pb) σ H Q := fun ⟨env, S, ρ, B, B0, d, S', s, er, ev, q⟩ => by
  rw [evE] at ev
  obtain ⟨⟨d1, S1⟩, ⟨d2, S2⟩, e1, e2, e3⟩ := bind2 ev
  obtain ⟨z, e4, e5⟩ := Option.map_eq_some_iff.mp e3
  cases e5
  exact two s er e1 e2 fun x y H2 ρ2 x2 s2 r1 r2 => ⟨ρ2, B, S2, _, _, _, s2, r1.top s2, r2.top s2, by show (semCmp op (top S2 d1) (top S2 d2)).map D.bl = _; rw [e4]; rfl, fun v H3 x3 s3 r3 => q v H3 ρ2 (x2.trans x3) s3 r3⟩
theorem sim_cmp (hK : X.K = G.K) (hu : X.A.units + 66 < cLine) {op : CmpOp} (ha : PE X a (tP G C pa)) (hb : PE X b (tP G C pb)) (hm : behindInMarks op b = false) : PE X (.Compare a [op] [b] pos) (tE G C (.cmp op pa pb)) :=
  impE (pe_cmpR (cmp_ok hK hu op) ha hb hm) fun _ _ _ h => cmp_reads h
/-- of a reading of a value to that of a test -/
theorem toE {σ : St} {H : Hp} {Q : Bool → Hp → Prop} (h : tT G C ex σ H Q) : tE G C ex σ H fun x H' => ∃ k, x = .bl k ∧ Q k H' :=
  let ⟨env, S, ρ, B, B0, b, S', s, er, ev, q⟩ := h
  ⟨env, S, ρ, B, B0, _, S', s, er, ev, fun v H' ρ' x s' r => by cases r; exact ⟨b, rfl, q H' ρ' x s'⟩⟩
theorem test_cmp (hK : X.K = G.K) (hu : X.A.units + 66 < cLine) {op : CmpOp} (ha : PE X a (tP G C pa)) (hb : PE X b (tP G C pb)) (hm : behindInMarks op b = false) : PT X (.Compare a [op] [b] pos) (tT G C (.cmp op pa pb)) :=
  impT (pt_cmpR (cmp_ok hK hu op) ha hb hm) fun _ _ _ h => cmp_reads (toE h)
theorem chn_reads {o1 o2 : CmpOp} {σ : St} {H : Hp} {Q : VK} : tE G C (.chn o1 o2 ea eb ec) σ H Q → tChain (rSem2 G fun a b => (semCmp o1 a b).map D.bl) (rSem2 G fun a b => (semCmp o2 a b).map D.bl) (tE G C ea) (tE G C eb) (tE G C ec) σ H Q := fun ⟨env, S, ρ, B, B0, d, S', s, er, ev, q⟩ => by
  rw [evE] at ev
  obtain ⟨⟨d1, S1⟩, ⟨d2, S2⟩, e1, e2, e3⟩ := bind2 ev
  refine ⟨env, S, ρ, B, B0, d1, S1, s, er, e1, fun x H1 ρ1 x1 s1 r1 => ⟨env, S1, ρ1, B, B0, d2, S2, s1, er.ext s x1, e2, fun y H2 ρ2 x2 s2 r2 => ?_⟩⟩
  cases k1 : semCmp o1 (top S2 d1) (top S2 d2) with
  | none => rw [show semCmp o1 (top (d2, S2).2 (d1, S1).1) (top (d2, S2).2 (d2, S2).1) = none from k1] at e3; cases e3
  | some k =>
    rw [show semCmp o1 (top (d2, S2).2 (d1, S1).1) (top (d2, S2).2 (d2, S2).1) = some k from k1] at e3
    refine ⟨ρ2, B, S2, _, _, _, s2, ((PR.of r1).ext s1 x2).top s2, (PR.of r2).top s2, by show (semCmp o1 (top S2 d1) (top S2 d2)).map D.bl = _; rw [k1]; rfl, fun v H3 x3 s3 r3 => ?_⟩
    cases r3
    refine ⟨k, rfl, ?_⟩
    cases k with
    | false =>
      rw [Option.bind_some] at e3
      cases e3
      exact iteF (q _ _ _ ((x1.trans x2).trans x3) s3 (.bl false))
    | true =>
      rw [Option.bind_some, if_pos rfl] at e3
      obtain ⟨⟨d3, S3⟩, e4, e5⟩ := Option.bind_eq_some_iff.mp e3
      obtain ⟨z, e6, e7⟩ := Option.map_eq_some_iff.mp e5
      cases e7
      refine iteT ⟨env, S2, ρ2, B, B0, d3, S3, s3, ((er.ext s x1).ext s1 x2).ext s2 x3, e4, fun w H4 ρ4 x4 s4 r4 => ?_⟩
      exact ⟨ρ4, B, S3, _, _, _, s4, ((((PR.of r2).ext s2 x3).ext s3 x4)).top s4, (PR.of r4).top s4, by show (semCmp o2 (top S3 d2) (top S3 d3)).map D.bl = _; rw [e6]; rfl, fun v H5 x5 s5 r5 => q _ _ _ ((((x1.trans x2).trans x3).trans x4).trans x5) s5 r5⟩
theorem sim_chn (hK : X.K = G.K) (hu : X.A.units + 66 < cLine) {o1 o2 : CmpOp} (ha : PE X a (tE G C ea)) (hb : PE X b (tE G C eb)) (hc : PE X c (tE G C ec)) (hm : lastMarks [o1, o2] [b, c] = false) : PE X (.Compare a [o1, o2] [b, c] pos) (tE G C (.chn o1 o2 ea eb ec)) :=
  impE (pe_chain (cmp_ok hK hu o1) (cmp_ok hK hu o2) ha hb hc hm) fun _ _ _ h => chn_reads h
theorem test_chn (hK : X.K = G.K) (hu : X.A.units + 66 < cLine) {o1 o2 : CmpOp} (ha : PE X a (tE G C ea)) (hb : PE X b (tE G C eb)) (hc : PE X c (tE G C ec)) (hm : lastMarks [o1, o2] [b, c] = false) : PT X (.Compare a [o1, o2] [b, c] pos) (tT G C (.chn o1 o2 ea eb ec)) :=
  impT (pt_chain (cmp_ok hK hu o1) (cmp_ok hK hu o2) ha hb hc hm) fun _ _ _ h => chn_reads (toE h)
end
end Wf
set_option Elab.async false
set_option linter.all false
namespace Wf
open PySem L2
variable {G : Cr} {C : Orc}
section
variable {X : Cx} {e a b c : Expr} {ex ea eb ec : E} {pa pb : P} {pos : Pos}
theorem sim_neg (ha : PE X a (tE G C ea)) : PE X (.UnaryOp .USub a pos) (tE G C (.neg ea)) :=
  impE (pe_un un_neg ha) fun σ H Q ⟨env, S, ρ, B, B0, d, S', s, er, ev, q⟩ => by
    rw [evE] at ev
    obtain ⟨⟨d1, S1⟩, e1, e2⟩ := Option.bind_eq_some_iff.mp ev
    obtain ⟨i, e3, e4⟩ := Option.map_eq_some_iff.mp e2
    cases e4
    refine ⟨env, S, ρ, B, B0, d1, _, s, er, e1, fun x H1 ρ1 x1 s1 r1 => ?_⟩
    cases r1 <;> simp only [int?] at e3 <;> first | (cases e3; done) | skip
    cases e3
    exact ⟨_, rfl, q _ _ _ x1 s1 (.int _)⟩
theorem bl_of {d : D} {k : Bool} (h : bl? d = some k) : d = .bl k := by
  cases d <;> simp only [bl?] at h <;> first | (cases h; done) | skip
  cases h; rfl
theorem int_of {d : D} {k : Int} (h : int? d = some k) : d = .int k := by
  cases d <;> simp only [int?] at h <;> first | (cases h; done) | skip
  cases h; rfl
theorem sim_nt (ha : PE X a (tE G C ea)) : PE X (.UnaryOp .Not a pos) (tE G C (.nt ea)) :=
  impE (pe_not ha) fun σ H Q ⟨env, S, ρ, B, B0, d, S', s, er, ev, q⟩ => by
    rw [evE] at ev
    obtain ⟨⟨d1, S1⟩, e1, e2⟩ := Option.bind_eq_some_iff.mp ev
    obtain ⟨i, e3, e4⟩ := Option.map_eq_some_iff.mp e2
    cases e4
    cases bl_of e3
    exact ⟨env, S, ρ, B, B0, _, _, s, er, e1, fun x H1 ρ1 x1 s1 r1 => by cases r1; exact ⟨_, rfl, q _ _ _ x1 s1 (.bl _)⟩⟩
theorem test_nt (ha : PT X a (tT G C ea)) : PT X (.UnaryOp .Not a pos) (tT G C (.nt ea)) :=
  impT (pt_not ha) fun σ H Q ⟨env, S, ρ, B, B0, k, S', s, er, ev, q⟩ => by
    rw [evE] at ev
    obtain ⟨⟨d1, S1⟩, e1, e2⟩ := Option.bind_eq_some_iff.mp ev
    obtain ⟨i, e3, e4⟩ := Option.map_eq_some_iff.mp e2
    cases e4
    cases bl_of e3
    exact ⟨env, S, ρ, B, B0, _, _, s, er, e1, fun H1 ρ1 x1 s1 => q _ _ x1 s1⟩
theorem sim_and {rest : List Expr} (ha : PE X a (tE G C ea)) (hb : PE X (.BoolOp .And (b :: rest) pos) (tE G C eb)) : PE X (.BoolOp .And (a :: b :: rest) pos) (tE G C (.and_ ea eb)) :=
  impE (pe_and ha hb) fun σ H Q ⟨env, S, ρ, B, B0, d, S', s, er, ev, q⟩ => by
    rw [evE] at ev
    obtain ⟨⟨d1, S1⟩, k, e1, e2, e3⟩ := bind2 ev
    cases bl_of e2
    refine ⟨env, S, ρ, B, B0, _, _, s, er, e1, fun x H1 ρ1 x1 s1 r1 => ?_⟩
    cases r1
    refine ⟨_, rfl, ?_⟩
    cases k with
    | true => exact iteT ⟨env, S1, ρ1, B, B0, _, _, s1, er.ext s x1, e3, fun v H2 ρ2 x2 s2 r2 => q _ _ _ (x1.trans x2) s2 r2⟩
    | false => cases e3; exact iteF (q _ _ _ x1 s1 (.bl _))
theorem sim_or {rest : List Expr} (ha : PE X a (tE G C ea)) (hb : PE X (.BoolOp .Or (b :: rest) pos) (tE G C eb)) : PE X (.BoolOp .Or (a :: b :: rest) pos) (tE G C (.or_ ea eb)) :=
  impE (pe_or ha hb) fun σ H Q ⟨env, S, ρ, B, B0, d, S', s, er, ev, q⟩ => by
    rw [evE] at ev
    obtain ⟨⟨d1, S1⟩, k, e1, e2, e3⟩ := bind2 ev
    cases bl_of e2
    refine ⟨env, S, ρ, B, B0, _, _, s, er, e1, fun x H1 ρ1 x1 s1 r1 => ?_⟩
    cases r1
    refine ⟨_, rfl, ?_⟩
    cases k with
    | false => exact iteF ⟨env, S1, ρ1, B, B0, _, _, s1, er.ext s x1, e3, fun v H2 ρ2 x2 s2 r2 => q _ _ _ (x1.trans x2) s2 r2⟩
    | true => cases e3; exact iteT (q _ _ _ x1 s1 (.bl _))
theorem impW {X : Cx} {e : Expr} {t u : TT} (h : PW X e t) (f : ∀ σ H Q, u σ H Q → t σ H Q) : PW X e u := ⟨fun wh pins s σ H Q I w => h.run wh pins s σ H Q I (f σ H Q w)⟩
theorem test_and {rest : List Expr} (ha : PT X a (tT G C ea)) (hb : PW X (.BoolOp .And (b :: rest) pos) (tT G C eb)) : PW X (.BoolOp .And (a :: b :: rest) pos) (tT G C (.and_ ea eb)) :=
  impW (pw_and ha hb) fun σ H Q ⟨env, S, ρ, B, B0, d, S', s, er, ev, q⟩ => by
    rw [evE] at ev
    obtain ⟨⟨d1, S1⟩, k, e1, e2, e3⟩ := bind2 ev
    cases bl_of e2
    refine ⟨env, S, ρ, B, B0, _, _, s, er, e1, fun H1 ρ1 x1 s1 => ?_⟩
    cases k with
    | true => exact iteT ⟨env, S1, ρ1, B, B0, _, _, s1, er.ext s x1, e3, fun H2 ρ2 x2 s2 => q _ _ (x1.trans x2) s2⟩
    | false => cases e3; exact iteF (q _ _ x1 s1)
theorem test_or {rest : List Expr} (ha : PT X a (tT G C ea)) (hb : PW X (.BoolOp .Or (b :: rest) pos) (tT G C eb)) : PW X (.BoolOp .Or (a :: b :: rest) pos) (tT G C (.or_ ea eb)) :=
  impW (pw_or ha hb) fun σ H Q ⟨env, S, ρ, B, B0, d, S', s, er, ev, q⟩ => by
    rw [evE] at ev
    obtain ⟨⟨d1, S1⟩, k, e1, e2, e3⟩ := bind2 ev
    cases bl_of e2
    refine ⟨env, S, ρ, B, B0, _, _, s, er, e1, fun H1 ρ1 x1 s1 => ?_⟩
    cases k with
    | false => exact iteF ⟨env, S1, ρ1, B, B0, _, _, s1, er.ext s x1, e3, fun H2 ρ2 x2 s2 => q _ _ (x1.trans x2) s2⟩
    | true => cases e3; exact iteT (q _ _ x1 s1)
theorem sim_ite (hc : PT X c (tT G C ec)) (ha : PE X a (tE G C ea)) (hb : PE X b (tE G C eb)) : PE X (.IfExp c a b pos) (tE G C (.ite ec ea eb)) :=
  impE (pe_ifExp hc ha hb) fun σ H Q ⟨env, S, ρ, B, B0, d, S', s, er, ev, q⟩ => by
    rw [evE] at ev
    obtain ⟨⟨d1, S1⟩, k, e1, e2, e3⟩ := bind2 ev
    cases bl_of e2
    refine ⟨env, S, ρ, B, B0, _, _, s, er, e1, fun H1 ρ1 x1 s1 => ?_⟩
    cases k with
    | true => exact iteT ⟨env, S1, ρ1, B, B0, _, _, s1, er.ext s x1, e3, fun v H2 ρ2 x2 s2 r2 => q _ _ _ (x1.trans x2) s2 r2⟩
    | false => exact iteF ⟨env, S1, ρ1, B, B0, _, _, s1, er.ext s x1, e3, fun v H2 ρ2 x2 s2 r2 => q _ _ _ (x1.trans x2) s2 r2⟩
theorem sim_sub (hK : X.K = G.K) (hw : X.w = G.w) (hu : X.A.units + 1 < cLine) (ha : PE X a (tP G C pa)) (hb : PE X b (tE G C eb)) (hs : PlainIx b) : PE X (.Subscript a b pos) (tE G C (.sub pa eb)) :=
  impE (pe_ix (ix_ok hK hw hu) ha (tP.of hb) hs) fun σ H Q ⟨env, S, ρ, B, B0, d, S', s, er, ev, q⟩ => by
    rw [evE] at ev
    obtain ⟨⟨d1, S1⟩, ⟨d2, S2⟩, e1, e2, e3⟩ := bind2 ev
    obtain ⟨z, e4, e5⟩ := Option.map_eq_some_iff.mp e3
    cases e5
    refine two s er (pa := pa) (pb := .e eb) e1 e2 fun x y H2 ρ2 x2 s2 r1 r2 => ⟨ρ2, B, S2, _, _, _, s2, r1.top s2, r2.tr, e4, fun v H3 x3 s3 r3 => q v H3 ρ2 (x2.trans x3) s3 r3⟩

/-! ### slices -/
def rCut (G : Cr) : V → Option Int → Option Int → Hp → VK → Prop := fun x lo hi H Q => ∃ ρ B S a d, SR G H ρ B S ∧ TR G H ρ B a x ∧ semCut a lo hi = some d ∧ Fin G H ρ B S d Q
theorem cut_ok (hK : X.K = G.K) : L2.SlR X (rCut G) := by
  intro pins s σ H x v vl vu lo hi sl Q I rx hs pl pu h
  obtain ⟨ρ, B, S, a, d, sr, t, e, q⟩ := h
  unfold semCut at e
  split at e
  · cases e
    obtain ⟨a1, vs, rfl, h1, r1⟩ := t.lstOf
    exact sl_list pins s σ H _ v vl vu _ _ sl Q I rx hs pl pu ⟨_, _, rfl, SqL.of h1, fun p hp => q.new p _ hp (.lst (r1.cut _ _))⟩
  · cases e
    cases t with
    | of r =>
      cases r with
      | scr k => exact sl_list pins s σ H _ v vl vu _ _ sl Q I rx hs pl pu ⟨_, _, rfl, by rw [hK]; exact k.sq, fun p hp => q.new p _ hp (.lst ((VRs.mapInt _).cut _ _))⟩
  · rename_i ds
    cases e
    obtain ⟨a1, vs, rfl, h1, r1⟩ := t.tupOf
    refine sl_tupA pins s σ H _ v vl vu _ _ sl Q I rx hs pl pu ⟨_, _, rfl, by rw [hK]; exact h1, fun hz => ?_, fun _ p hp => new_tup sr (r1.cut _ _) hp fun v H' x s' r => q.tup v H' x s' r rfl⟩
    refine q.tup _ _ Ext.refl sr ?_ rfl
    have e1 : cutD ds lo hi = ds := by
      unfold cutD
      rw [r1.length] at hz
      rw [hz.1, hz.2]
      simp
    rw [e1]
    exact .tup h1 r1
  · cases e
def tO (G : Cr) (C : Orc) (o : Oe) : TO := fun σ H Q => ∃ env S ρ B B0 d S', SR G H ρ B S ∧ ER G H ρ B B0 σ env ∧ evO C o env S = some (d, S') ∧ ∀ H' ρ', Ext H ρ H' ρ' → SR G H' ρ' B S' → Q d H'
theorem impO {X : Cx} {e : Option Expr} {t u : TO} (h : PO X e t) (f : ∀ σ H Q, u σ H Q → t σ H Q) : PO X e u := ⟨fun pins s σ H Q I w => h.run pins s σ H Q I (f σ H Q w)⟩
theorem sim_o_none : PO X none (tO G C .none) := impO po_none fun σ H Q ⟨env, S, ρ, B, B0, d, S', s, er, ev, q⟩ => by rw [evO] at ev; cases ev; exact q _ _ Ext.refl s
theorem sim_o_some (h : PE X e (tE G C ex)) : PO X (some e) (tO G C (.some ex)) := impO (po_some h) fun σ H Q ⟨env, S, ρ, B, B0, d, S', s, er, ev, q⟩ => by
  rw [evO] at ev
  obtain ⟨⟨d1, S1⟩, e1, e2⟩ := Option.bind_eq_some_iff.mp ev
  obtain ⟨i, e3, e4⟩ := Option.map_eq_some_iff.mp e2
  cases e4
  cases int_of e3
  exact ⟨env, S, ρ, B, B0, _, _, s, er, e1, fun v H1 ρ1 x1 s1 r1 => by cases r1; exact ⟨_, rfl, q _ _ x1 s1⟩⟩
theorem sim_cut (hK : X.K = G.K) {lo hi : Option Expr} {el eh : Oe} {p2 : Pos} (ha : PE X a (tP G C pa)) (hl : PO X lo (tO G C el)) (hh : PO X hi (tO G C eh)) : PE X (.Subscript a (.Slice lo hi none p2) pos) (tF G C (.cut pa el eh)) :=
  impE (pe_slice (cut_ok hK) ha hl hh) fun σ H Q ⟨env, S, ρ, B, B0, d, S', s, er, ev, q⟩ => by
    rw [evE] at ev
    obtain ⟨⟨d1, S1⟩, ⟨l, S2⟩, e1, e2, e3⟩ := bind2 ev
    obtain ⟨⟨h, S3⟩, e4, e5⟩ := Option.bind_eq_some_iff.mp e3
    obtain ⟨z, e6, e7⟩ := Option.map_eq_some_iff.mp e5
    cases e7
    refine ⟨env, S, ρ, B, B0, d1, S1, s, er, e1, fun x H1 ρ1 x1 s1 r1 => ⟨env, S1, ρ1, B, B0, l, S2, s1, er.ext s x1, e2, fun H2 ρ2 x2 s2 => ⟨env, S2, ρ2, B, B0, h, S3, s2, (er.ext s x1).ext s1 x2, e4, fun H3 ρ3 x3 s3 => ?_⟩⟩⟩
    exact ⟨ρ3, B, S3, _, _, s3, ((r1.ext s1 x2).ext s2 x3).top s3, e6, q _ _ ((x1.trans x2).trans x3) s3⟩
theorem sim_rev (hK : X.K = G.K) {k : Nat} {p1 p2 p3 : Pos} (ha : PE X a (tP G C pa)) : PE X (.Subscript a (.Slice none none (some (.UnaryOp .USub (.Constant (.int 1) k p1) p2)) p3) pos) (tF G C (.rev pa)) :=
  impE (pe_revL ha) fun σ H Q ⟨env, S, ρ, B, B0, d, S', s, er, ev, q⟩ => by
    rw [evE] at ev
    obtain ⟨⟨d1, S1⟩, e1, e2⟩ := Option.bind_eq_some_iff.mp ev
    refine ⟨env, S, ρ, B, B0, d1, S1, s, er, e1, fun x H1 ρ1 x1 s1 r1 => ?_⟩
    have t := r1.top s1
    split at e2
    · rename_i xs hx
      cases e2
      rw [show top S1 d1 = _ from hx] at t
      obtain ⟨a1, vs, rfl, h1, q1⟩ := t.lstOf
      exact ⟨_, _, rfl, SqL.of h1, fun p hp => (q _ _ x1 s1).new p _ hp (.lst q1.reverse)⟩
    · cases e2

/-! ### argument lists, displays -/
theorem sim_nil : PA X [] (tEs G C .nil) := impA pa_nil fun σ H Q ⟨env, S, ρ, B, B0, d, S', s, er, ev, q⟩ => by rw [evEs] at ev; cases ev; exact q _ _ _ Ext.refl s .nil
theorem sim_cons {es : List Expr} {exs : Es} (h : PE X e (tE G C ex)) (hr : PA X es (tEs G C exs)) (hs : starEach (e :: es) X.env = (false, eval e X.env) :: starEach es X.env) : PA X (e :: es) (tEs G C (.cons ex exs)) :=
  impA (pa_cons h hr hs) fun σ H Q ⟨env, S, ρ, B, B0, d, S', s, er, ev, q⟩ => by
    rw [evEs] at ev
    obtain ⟨⟨d1, S1⟩, e1, e2⟩ := Option.bind_eq_some_iff.mp ev
    obtain ⟨⟨ds, S2⟩, e3, e4⟩ := Option.map_eq_some_iff.mp e2
    cases e4
    exact ⟨env, S, ρ, B, B0, d1, S1, s, er, e1, fun x H1 ρ1 x1 s1 r1 => ⟨env, S1, ρ1, B, B0, ds, S2, s1, er.ext s x1, e3, fun vs H2 ρ2 x2 s2 r2 => q _ _ _ (x1.trans x2) s2 (.cons (r1.ext s1 x2) r2)⟩⟩
theorem simQ_nil : PA X [] (tQs G C .nil) := impA pa_nil fun σ H Q ⟨env, S, ρ, B, B0, d, S', s, er, ev, q⟩ => by rw [evQs] at ev; cases ev; exact q _ _ _ Ext.refl s .nil
theorem simQ_cons {es : List Expr} {exs : Qs} (h : PE X e (tP G C pa)) (hr : PA X es (tQs G C exs)) (hs : starEach (e :: es) X.env = (false, eval e X.env) :: starEach es X.env) : PA X (e :: es) (tQs G C (.cons pa exs)) :=
  impA (pa_cons h hr hs) fun σ H Q ⟨env, S, ρ, B, B0, d, S', s, er, ev, q⟩ => by
    rw [evQs] at ev
    obtain ⟨⟨d1, S1⟩, e1, e2⟩ := Option.bind_eq_some_iff.mp ev
    obtain ⟨⟨ds, S2⟩, e3, e4⟩ := Option.map_eq_some_iff.mp e2
    cases e4
    exact ⟨env, S, ρ, B, B0, d1, S1, s, er, e1, fun x H1 ρ1 x1 s1 r1 => ⟨env, S1, ρ1, B, B0, ds, S2, s1, er.ext s x1, e3, fun vs H2 ρ2 x2 s2 r2 => q _ _ _ (x1.trans x2) s2 (.cons (r1.ext s1 x2) r2)⟩⟩
theorem sim_tup {es : List Expr} {exs : Es} {k : Nat} (h : PA X es (tEs G C exs)) : PE X (.Tuple es k pos) (tE G C (.tup exs)) :=
  impE (pe_tup h) fun σ H Q ⟨env, S, ρ, B, B0, d, S', s, er, ev, q⟩ => by
    rw [evE] at ev
    obtain ⟨⟨ds, S1⟩, e1, e2⟩ := Option.bind_eq_some_iff.mp ev
    split at e2
    · rename_i hz
      cases e2
      exact ⟨env, S, ρ, B, B0, ds, S1, s, er, e1, fun vs H1 ρ1 x1 s1 r1 => ⟨by rw [r1.length]; exact hz, fun p hp => new_tup s1 r1 hp fun v H' x s' r => q _ _ _ (x1.trans x) s' r⟩⟩
    · cases e2
theorem sim_lst {es : List Expr} {exs : Es} (h : PA X es (tEs G C exs)) : PE X (.List es pos) (tF G C (.lst exs)) :=
  impE (pe_lst h) fun σ H Q ⟨env, S, ρ, B, B0, d, S', s, er, ev, q⟩ => by
    rw [evE] at ev
    obtain ⟨⟨ds, S1⟩, e1, e2⟩ := Option.bind_eq_some_iff.mp ev
    split at e2
    · rename_i hz
      cases e2
      exact ⟨env, S, ρ, B, B0, ds, S1, s, er, e1, fun vs H1 ρ1 x1 s1 r1 => ⟨by rw [r1.length]; exact hz, fun p hp => (q _ _ x1 s1).new p _ hp (.lst r1)⟩⟩
    · cases e2
end
end Wf
set_option Elab.async false
set_option linter.all false
namespace Wf
open PySem L2
variable {G : Cr} {C : Orc}
section
variable {X : Cx} {e a b c : Expr} {ex ea eb ec : E} {pa pb : P} {pos : Pos}

/-! ### built-ins by name -/
theorem cb_reads {f : Bi} {qs : Qs} {σ : St} {H : Hp} {Q : VK} : tE G C (.bi f qs) σ H Q → tCB (rBi G f) (tQs G C qs) σ H Q := fun ⟨env, S, ρ, B, B0, d, S', s, er, ev, q⟩ => by
  rw [evE] at ev
  obtain ⟨⟨ds, S1⟩, e1, e2⟩ := Option.bind_eq_some_iff.mp ev
  obtain ⟨z, e3, e4⟩ := Option.map_eq_some_iff.mp e2
  cases e4
  exact ⟨env, S, ρ, B, B0, ds, S1, s, er, e1, fun vs H1 ρ1 x1 s1 r1 => ⟨ρ1, B, S1, _, _, s1, r1.top s1, e3, fun v H2 x2 s2 r2 => q _ _ _ (x1.trans x2) s2 r2⟩⟩
def biFn : Bi → Bool
  | .int => false | .tuple => false | .list => false | .bool => false | _ => true
theorem bi_boot (f : Bi) : bootBuiltins (biName f) = some (biVal f) := by cases f <;> decide +kernel
theorem sim_bi (hK : X.K = G.K) (hc : X.calm = true) (hg : X.A.guards = some []) (hu : X.A.units + 66 < cLine) {f : Bi} {p : Pos} {es : List Expr} {qs : Qs} (gl : Gl X (biName f)) (hm : X.mg (biName f) = none) (ha : PA X (e :: es) (tQs G C qs))
    (he : starEach (e :: es) X.env = (false, eval e X.env) :: starEach es X.env) (hpl : (backTo pos (starEach es X.env)).any (·.1) = false) : PE X (.Call (.Name (biName f) p) (e :: es) [] pos) (tE G C (.bi f qs)) := by
  have B := bi_boot f
  have O : CallR X (biVal f) (rBi G f) := bi_ok hK hc hg hu f
  cases f with
  | int => exact impE (pe_callTy (T := "int") O gl hm B ha (by decide) (by decide) he hpl) fun _ _ _ h => cb_reads h
  | tuple => exact impE (pe_callTy (T := "tuple") O gl hm B ha (by decide) (by decide) he hpl) fun _ _ _ h => cb_reads h
  | bool => exact impE (pe_callTy (T := "bool") O gl hm B ha (by decide) (by decide) he hpl) fun _ _ _ h => cb_reads h
  | list => exact impE (pe_callTy (T := "list") O gl hm B ha (by decide) (by decide) he hpl) fun _ _ _ h => cb_reads h
  | len => exact impE (pe_callB (id := "len") O gl hm B ha (by decide) (by decide) he hpl) fun _ _ _ h => cb_reads h
  | abs => exact impE (pe_callB (id := "abs") O gl hm B ha (by decide) (by decide) he hpl) fun _ _ _ h => cb_reads h
  | min => exact impE (pe_callB (id := "min") O gl hm B ha (by decide) (by decide) he hpl) fun _ _ _ h => cb_reads h
  | max => exact impE (pe_callB (id := "max") O gl hm B ha (by decide) (by decide) he hpl) fun _ _ _ h => cb_reads h
  | sum => exact impE (pe_callB (id := "sum") O gl hm B ha (by decide) (by decide) he hpl) fun _ _ _ h => cb_reads h
  | any => exact impE (pe_callB (id := "any") O gl hm B ha (by decide) (by decide) he hpl) fun _ _ _ h => cb_reads h
  | all => exact impE (pe_callB (id := "all") O gl hm B ha (by decide) (by decide) he hpl) fun _ _ _ h => cb_reads h
  | repr => exact impE (pe_callB (id := "repr") O gl hm B ha (by decide) (by decide) he hpl) fun _ _ _ h => cb_reads h

/-! ### the store -/
theorem sim_box (h : PE X e (tF G C ex)) : PE X e (tE G C (.box ex)) :=
  impE h fun σ H Q ⟨env, S, ρ, B, B0, d, S', s, er, ev, q⟩ => by
    rw [evE] at ev
    obtain ⟨⟨d1, S1⟩, e1, e2⟩ := Option.bind_eq_some_iff.mp ev
    refine ⟨env, S, ρ, B, B0, d1, S1, s, er, e1, fun H1 ρ1 x1 s1 => ⟨fun p o hp f => ?_, fun v H' x s' r ht => ?_⟩⟩
    · have np : p ∉ ρ1 := fun z => s1.tracked z hp
      have at_ : (ρ1 ++ [p])[S1.length]? = some p := by
        rw [List.getElem?_append_right (by rw [s1.len]; exact Nat.le_refl _), s1.len]
        simp
      cases f with
      | @lst ds vs r =>
        cases e2
        have ex : Ext H1 ρ1 (upd H1 p (.lst vs)) (ρ1 ++ [p]) := (⟨fun a o' e _ => by rw [upd_ne (ne_of_none e hp)]; exact e, fun a e => by
          by_cases z : a = p
          · rw [z, upd_same]; simp
          · rw [upd_ne z]; exact e, [p], rfl, fun q hq => by rw [List.mem_singleton.mp hq]; exact hp⟩)
        obtain ⟨s2, x2⟩ := s1.push (o := .lst vs) (ob := .lst ds) hp (.lst upd_same (r.ext s1 ex))
        exact q _ _ _ (x1.trans x2) s2 (.ref at_)
      | @dct ds vs r =>
        cases e2
        have ex : Ext H1 ρ1 (upd H1 p (.dK vs)) (ρ1 ++ [p]) := (⟨fun a o' e _ => by rw [upd_ne (ne_of_none e hp)]; exact e, fun a e => by
          by_cases z : a = p
          · rw [z, upd_same]; simp
          · rw [upd_ne z]; exact e, [p], rfl, fun q hq => by rw [List.mem_singleton.mp hq]; exact hp⟩)
        obtain ⟨s2, x2⟩ := s1.push (o := .dK vs) (ob := .dct ds) hp (.dct upd_same (VRk.mono (ex.keeps s1) _ _ r))
        exact q _ _ _ (x1.trans x2) s2 (.ref at_)
    · cases d1 <;> simp only [isT] at ht <;> first | (cases ht; done) | skip
      cases e2
/-- the receiver is no super() -/
def noSup : Expr → Bool
  | .Call (.Name _ _) [] [] _ => false
  | _ => true
theorem base_of {o : Expr} {m : Str} {env : PySem.Env} (h : noSup o = true) : attributeBase o m env (eval o env) = eval o env := by
  unfold attributeBase
  cases o <;> first | rfl | skip
  rename_i f as ks p
  cases f <;> first | rfl | skip
  cases as <;> first | rfl | skip
  cases ks <;> first | rfl | skip
  cases h
theorem sim_pop {apos : Pos} (h : PE X a (tE G C ea)) (hs : noSup a = true) (hl : (apos.endLine == pos.line) = true) : PE X (.Call (.Attribute a "pop" apos) [] [] pos) (tE G C (.pop ea)) :=
  impE (pe_bm0 PySem.F.plainAttrs_list PySem.F.slot_list_pop PySem.F.type_list_pop mt_pop h (base_of hs) hl) fun σ H Q ⟨env, S, ρ, B, B0, d, S', s, er, ev, q⟩ => by
    rw [evE] at ev
    obtain ⟨⟨d1, S1⟩, ⟨i, xs⟩, e1, e2, e3⟩ := bind2 ev
    obtain ⟨y, e4, e5⟩ := Option.map_eq_some_iff.mp e3
    obtain ⟨e6, ho⟩ := refL_of e2
    cases e5
    cases e6
    refine ⟨env, S, ρ, B, B0, _, S1, s, er, e1, fun x H1 ρ1 x1 s1 r1 => ?_⟩
    cases r1 with
    | ref hi =>
      cases s1.ob i _ _ ho hi with
      | @lst _ _ vs h1 r1 =>
        obtain ⟨yv, e5, ry⟩ := r1.get e4
        refine ⟨.inl ⟨rfl, _, SqL.of h1⟩, _, _, yv, rfl, rfl, h1, by rw [r1.length]; exact e5, ?_⟩
        obtain ⟨s2, x2⟩ := s1.write (o := .lst vs.dropLast) (ob := .lst xs.dropLast) hi ho trivial fun k => .lst upd_same (VRs.mono k _ _ r1.dropLast)
        exact q _ _ _ (x1.trans x2) s2 (ry.ext s1 x2)
theorem sim_app {apos : Pos} (h : PE X a (tE G C ea)) (hb : PE X b (tE G C eb)) (hs : noSup a = true) (hl : (apos.endLine == pos.line) = true) (hst : starEach [b] X.env = [(false, eval b X.env)]) : PE X (.Call (.Attribute a "append" apos) [b] [] pos) (tE G C (.app ea eb)) :=
  impE (pe_bm PySem.F.plainAttrs_list PySem.F.slot_list_append PySem.F.type_list_append mt_append h (sim_cons hb sim_nil hst) (base_of hs) (by rw [hst]; rfl) hl hst rfl) fun σ H Q ⟨env, S, ρ, B, B0, d, S', s, er, ev, q⟩ => by
    rw [evE] at ev
    obtain ⟨⟨d1, S1⟩, ⟨i0, xs0⟩, e1, e2, e3⟩ := bind2 ev
    obtain ⟨⟨d2, S2⟩, ⟨i, xs⟩, e4, e5, e6⟩ := bind2 e3
    obtain ⟨f1, ho0⟩ := refL_of e2
    obtain ⟨f2, ho⟩ := refL_of e5
    cases f1
    cases f2
    split at e6
    · rename_i hz
      cases e6
      refine ⟨env, S, ρ, B, B0, _, S1, s, er, e1, fun x H1 ρ1 x1 s1 r1 => ?_⟩
      cases r1 with
      | ref hi =>
        cases s1.ob _ _ _ ho0 hi with
        | @lst _ _ vs0 h0 r0 =>
          refine ⟨.inl ⟨rfl, _, SqL.of h0⟩, env, S1, ρ1, B, B0, [d2], S2, s1, er.ext s x1, by rw [evEs, e4]; rfl, fun vs H2 ρ2 x2 s2 r2 => ?_⟩
          cases r2 with
          | cons r3 r4 =>
            cases r4
            have hi2 := (x2.keeps s1).ref _ _ hi
            cases s2.ob _ _ _ ho hi2 with
            | @lst _ _ us h1 r1 =>
              refine ⟨_, _, _, rfl, rfl, h1, by rw [r1.length]; exact hz, ?_⟩
              obtain ⟨s3, x3⟩ := s2.write (o := .lst (us ++ [_])) (ob := .lst (xs ++ [d2])) hi2 ho trivial fun k => .lst upd_same (VRs.mono k _ _ (r1.append (.cons r3 .nil)))
              exact q _ _ _ ((x1.trans x2).trans x3) s3 .non
    · cases e6
end
end Wf
set_option Elab.async false
set_option linter.all false
namespace Wf
open PySem L2
variable {G : Cr} {C : Orc}

/-! ### a thing under construction: banned, then let go -/
def era (H : Hp) (p : Addr) : Hp := fun a => if a = p then none else H a
theorem era_same {H : Hp} {p : Addr} : era H p p = none := if_pos rfl
theorem era_ne {H : Hp} {p a : Addr} (h : a ≠ p) : era H p a = H a := if_neg h
theorem upd_era {H : Hp} {p : Addr} {o : HO} (h : H p = some o) : upd (era H p) p o = H := by
  funext a
  by_cases z : a = p
  · rw [z, upd_same, h]
  · rw [upd_ne z, era_ne z]
theorem upd_era' {H : Hp} {p : Addr} {o : HO} : upd (era H p) p o = upd H p o := by
  funext a
  by_cases z : a = p
  · rw [z, upd_same, upd_same]
  · rw [upd_ne z, upd_ne z, era_ne z]
section
variable {H H' : Hp} {ρ ρ' B : List Addr} {S : Sto} {p : Addr} {o : HO}
theorem keep_ban (s : SR G H ρ B S) (h : H p = none) : Keep G H ρ B (upd H p o) ρ (p :: B) := by
  have k := (Ext.laid (ρ := ρ) (o := o) h).keeps s
  have np : ∀ a vs, H a = some vs → a ≠ p := fun a vs e => ne_of_none e h
  exact ⟨k.tup, fun a vs q => ⟨(k.lst a vs q).1, q.2.1, by simp only [List.mem_cons, not_or]; exact ⟨np _ _ q.1, q.2.2⟩⟩, fun a vs q => ⟨(k.dct a vs q).1, q.2.1, by simp only [List.mem_cons, not_or]; exact ⟨np _ _ q.1, q.2.2⟩⟩, k.scr, k.ref⟩
theorem ObR.keep {ob : Ob} {a : Addr} {ρ2 B2 : List Addr} (k : Keep G H ρ B H' ρ2 B2) (e : H' a = H a) (r : ObR G H ρ B ob a) : ObR G H' ρ2 B2 ob a := by
  cases r with
  | lst h r => exact .lst (by rw [e]; exact h) (VRs.mono k _ _ r)
  | dct h r => exact .dct (by rw [e]; exact h) (VRk.mono k _ _ r)
  | ins h c r => exact .ins (by rw [e]; exact h) c (r.mono k)
theorem SR.ban (s : SR G H ρ B S) (h : H p = none) : SR G (upd H p o) ρ (p :: B) S := by
  have k := keep_ban (o := o) s h
  refine ⟨s.len, s.nd, fun i ob a e1 e2 => (s.ob i ob a e1 e2).keep k (upd_ne fun z => s.tracked (List.mem_of_getElem? e2) (by rw [z]; exact h)), fun a ha => ?_⟩
  rcases List.mem_cons.mp ha with z | z
  · rw [z]; exact ⟨by rw [upd_same]; simp, fun q => s.tracked q h⟩
  · exact ⟨(Ext.laid (ρ := ρ) (o := o) h).there a (s.bt a z).1, (s.bt a z).2⟩
theorem keep_unban (mo : Mut (H p)) : Keep G H ρ (p :: B) (era H p) ρ B := by
  have nt : ∀ a u, H a = some u → ¬ Mut (some u) → a ≠ p := fun a u e n z => by
    subst z; rw [e] at mo; exact n mo
  refine ⟨fun a vs q => ?_, fun a vs q => ?_, fun a vs q => ?_, fun a vs q => ?_, fun _ _ e => e⟩
  · rcases q with (q | ⟨ob, q⟩) | q
    · exact .inl (.inl (by rw [era_ne (nt a _ q fun z => z)]; exact q))
    · exact .inl (.inr ⟨ob, by rw [era_ne (nt a _ q fun z => z)]; exact q⟩)
    · exact .inr q
  · have q2 := q.2.2
    simp only [List.mem_cons, not_or] at q2
    exact ⟨by rw [era_ne q2.1]; exact q.1, q.2.1, q2.2⟩
  · have q2 := q.2.2
    simp only [List.mem_cons, not_or] at q2
    exact ⟨by rw [era_ne q2.1]; exact q.1, q.2.1, q2.2⟩
  · rcases q with ⟨ob, q⟩ | q
    · exact .inl ⟨ob, by rw [era_ne (nt a _ q fun z => z)]; exact q⟩
    · exact .inr q
theorem SR.unban (s : SR G H ρ (p :: B) S) (nb : p ∉ B) (mo : Mut (H p)) : SR G (era H p) ρ B S := by
  have k := keep_unban (G := G) (ρ := ρ) (B := B) mo
  have pr : p ∉ ρ := (s.bt p List.mem_cons_self).2
  refine ⟨s.len, s.nd, fun i ob a e1 e2 => (s.ob i ob a e1 e2).keep k (era_ne fun z => pr (z ▸ List.mem_of_getElem? e2)), fun a ha => ?_⟩
  have h := s.bt a (List.mem_cons_of_mem _ ha)
  have ne : a ≠ p := fun z => nb (z ▸ ha)
  exact ⟨by rw [era_ne ne]; exact h.1, h.2⟩
/-- from ahead of the making to behind it, without the thing -/
theorem Ext.unban (h : H p = none) (e : Ext (upd H p o) ρ H' ρ') : Ext H ρ (era H' p) ρ' := by
  refine ⟨fun a u q n => ?_, fun a q => ?_, ?_⟩
  · have ne := ne_of_none q h
    rw [era_ne ne]
    exact e.keep a u (by rw [upd_ne ne]; exact q) n
  · have ne : a ≠ p := fun z => q (by rw [z]; exact h)
    rw [era_ne ne]
    exact e.there a (by rw [upd_ne ne]; exact q)
  · obtain ⟨n, e1, e2⟩ := e.new
    refine ⟨n, e1, fun b hb => ?_⟩
    have q := e2 b hb
    by_cases z : b = p
    · rw [z]; exact h
    · rw [upd_ne z] at q; exact q
theorem ER.ban {σ : St} {env : Env} {B0 : List Addr} (s : SR G H ρ B S) (h : H p = none) (t : ER G H ρ B B0 σ env) : ER G (upd H p o) ρ (p :: B) B0 σ env := by
  have k := keep_ban (o := o) s h
  refine ⟨t.len, fun i x e => ?_, t.apart⟩
  cases t.sl i x e with
  | un => exact .un
  | fz e1 r => exact .fz e1 (VR.mono k _ _ r)
  | ol e1 hb hn hh r => exact .ol e1 (List.mem_cons_of_mem _ hb) hn (by rw [upd_ne (ne_of_none hh h)]; exact hh) (VRs.mono k _ _ r)
  | od e1 hb hn hh r => exact .od e1 (List.mem_cons_of_mem _ hb) hn (by rw [upd_ne (ne_of_none hh h)]; exact hh) (VRk.mono k _ _ r)
end

/-! ### dict displays -/
def psTrs (G : Cr) (C : Orc) : Ps → List (TE × TE)
  | .nil => []
  | .cons k v ps => (tE G C k, tE G C v) :: psTrs G C ps
theorem pairs_reads : ∀ (ps : Ps) {σ : St} {H : Hp} {env : Env} {S S' : Sto} {ρ B B0 : List Addr} {kds : List (Key × D)} {Q : List (V × V) → Hp → Prop}, SR G H ρ B S → ER G H ρ B B0 σ env → evPs C ps env S = some (kds, S') →
    (∀ kvs H' ρ', Ext H ρ H' ρ' → SR G H' ρ' B S' → VRk G H' ρ' B kds kvs → Q (kvs.map fun kv => (kV kv.1, kv.2)) H') → tPairs (psTrs G C ps) σ H Q
  | .nil, σ, H, env, S, S', ρ, B, B0, kds, Q, s, er, ev, q => by
    rw [evPs] at ev
    cases ev
    exact q [] H ρ Ext.refl s .nil
  | .cons k v ps, σ, H, env, S, S', ρ, B, B0, kds, Q, s, er, ev, q => by
    rw [evPs] at ev
    obtain ⟨⟨d1, S1⟩, kk, e1, e2, e3⟩ := bind2 ev
    obtain ⟨⟨d2, S2⟩, e4, e5⟩ := Option.bind_eq_some_iff.mp e3
    obtain ⟨⟨r, S3⟩, e6, e7⟩ := Option.map_eq_some_iff.mp e5
    cases e7
    refine ⟨env, S, ρ, B, B0, d1, S1, s, er, e1, fun x H1 ρ1 x1 s1 r1 => ⟨env, S1, ρ1, B, B0, d2, S2, s1, er.ext s x1, e4, fun y H2 ρ2 x2 s2 r2 => ?_⟩⟩
    have hx : x = kV kk := by
      cases d1 with
      | int i => cases e2; cases r1; rfl
      | str i => cases e2; cases r1; rfl
      | _ => cases e2
    subst hx
    exact pairs_reads ps s2 ((er.ext s x1).ext s1 x2) e6 fun kvs H3 ρ3 x3 s3 r3 => q ((kk, y) :: kvs) H3 ρ3 ((x1.trans x2).trans x3) s3 (.cons (r2.ext s2 x3) r3)
theorem VRk.merge {H : Hp} {ρ B : List Addr} : ∀ {more : List (Key × D)} {mv : List (Key × V)} {ds : List (Key × D)} {vs : List (Key × V)}, VRk G H ρ B more mv → VRk G H ρ B ds vs →
    VRk G H ρ B (more.foldl (fun acc kv => Wf.put acc kv.1 kv.2) ds) (mergeK vs mv)
  | [], _, _, _, .nil, q => q
  | (k, d) :: more, _, ds, _, .cons (v := v) (vs := mv) r t, q => by
    show VRk G H ρ B (more.foldl (fun acc kv => Wf.put acc kv.1 kv.2) (Wf.put ds k d)) (mergeK (putK _ k v) mv)
    exact VRk.merge t (VRk.put r q)
theorem sim_dsp {X : Cx} {pos : Pos} {keys : List (Option Expr)} {values : List Expr} {ps : Ps} (h : PPs X pos keys values (psTrs G C ps)) (hall : keys.all (·.isSome) = true) (hl : keys.length = values.length) (h0 : keys ≠ []) (h15 : keys.length ≤ 15) :
    PE X (.Dict keys values pos) (tF G C (.dsp ps)) :=
  impE (pe_disp h hall hl h0 h15) fun σ H Q ⟨env, S, ρ, B, B0, d, S', s, er, ev, q⟩ => by
    rw [evE] at ev
    obtain ⟨⟨kds, S1⟩, e1, e2⟩ := Option.bind_eq_some_iff.mp ev
    split at e2
    · rename_i hz
      cases e2
      intro p hp
      refine pairs_reads ps (s.ban (o := .dK []) hp) (er.ban s hp) e1 fun kvs H1 ρ1 x1 s1 r1 => ?_
      have hpB : p ∉ B := fun z => (s.bt p z).1 hp
      have hat : H1 p = some (.dK []) := x1.keep p _ upd_same fun z => s.tracked z hp
      refine ⟨hat, kvs, rfl, by rw [r1.length]; exact hz, ?_⟩
      have mo : Mut (H1 p) := by rw [hat]; trivial
      have f := q (era H1 p) ρ1 (x1.unban hp) (s1.unban hpB mo)
      rw [← upd_era' (H := H1)]
      exact f.new p _ era_same (.dct (VRk.merge (VRk.mono (keep_unban mo) _ _ r1) .nil))
    · cases e2
theorem sim_dsp0 {X : Cx} {pos : Pos} : PE X (.Dict [] [] pos) (tF G C (.dsp .nil)) :=
  impE pe_dnewK fun σ H Q ⟨env, S, ρ, B, B0, d, S', s, er, ev, q⟩ => by
    rw [evE, evPs] at ev
    cases ev
    intro p hp
    exact (q H ρ Ext.refl s).new p _ hp (.dct .nil)

/-! ### what is walked -/
structure IterOk (G : Cr) (J : L2.It) (H : Hp) (ρ B : List Addr) (ds : List D) : Prop where
  go : ∀ H2 ρ2 B2, (∀ a o, H a = some o → a ∉ ρ → a ∉ B → H2 a = some o) → Keep G H ρ B H2 ρ2 B2 → ∀ i, i < ds.length → J.go i H2
  yld : ∀ H2 ρ2 B2 S2, (∀ a o, H a = some o → a ∉ ρ → a ∉ B → H2 a = some o) → Keep G H ρ B H2 ρ2 B2 → SR G H2 ρ2 B2 S2 → ∀ i d, ds[i]? = some d → ∀ x H3, J.yld i H2 x H3 → Ext H2 ρ2 H3 ρ2 ∧ SR G H3 ρ2 B2 S2 ∧ VR G H3 ρ2 B2 d x
  stop : ∀ H2 ρ2 B2, (∀ a o, H a = some o → a ∉ ρ → a ∉ B → H2 a = some o) → Keep G H ρ B H2 ρ2 B2 → J.stop ds.length H2
def tI (G : Cr) (C : Orc) (it : It) : TI := fun σ H R => ∃ env S ρ B B0 ds S', SR G H ρ B S ∧ ER G H ρ B B0 σ env ∧ evI C it env S = some (ds, S') ∧ ∀ J H' ρ', Ext H ρ H' ρ' → SR G H' ρ' B S' → IterOk G J H' ρ' B ds → R J H'
theorem impI {X : Cx} {tg e : Expr} {t u : TI} (h : PI X tg e t) (f : ∀ σ H R, u σ H R → t σ H R) : PI X tg e u := ⟨fun pins s σ H Q I w => h.run pins s σ H Q I (f σ H Q w)⟩
section
variable {X : Cx} {tg e a b : Expr} {ex ea eb : E} {p pos : Pos} {H : Hp} {ρ B : List Addr} {S : Sto}
theorem iter_lst {ad : Addr} {ds : List D} {vs : List V} {K : PySem.W.Frag} (h : FzL H ρ B ad vs) (r : VRs G H ρ B ds vs) : IterOk G (Itl K ad) H ρ B ds := by
  have st : ∀ H2 : Hp, (∀ a o, H a = some o → a ∉ ρ → a ∉ B → H2 a = some o) → SqL K H2 ad vs := fun H2 k => SqL.of (k ad _ h.1 h.2.1 h.2.2)
  refine ⟨fun H2 ρ2 B2 k kp i hi => ?_, fun H2 ρ2 B2 S2 k kp s2 i d e x H3 y => ?_, fun H2 ρ2 B2 k kp => ⟨vs, st H2 k, by rw [r.length]; exact Nat.le_refl _⟩⟩
  · obtain ⟨v, e, _⟩ := r.get (List.getElem?_eq_getElem hi)
    exact ⟨vs, v, st H2 k, e⟩
  · obtain ⟨e3, y⟩ := y
    subst e3
    obtain ⟨v, e1, r1⟩ := r.get e
    have e2 := y vs (st _ k)
    rw [e1] at e2
    cases e2
    exact ⟨Ext.refl, s2, VR.mono kp _ _ r1⟩
theorem iter_tup {ad : Addr} {ds : List D} {vs : List V} (h : SqT G.K H ad vs) (r : VRs G H ρ B ds vs) : IterOk G (Itt G.K ad) H ρ B ds := by
  refine ⟨fun H2 ρ2 B2 k kp i hi => ?_, fun H2 ρ2 B2 S2 k kp s2 i d e x H3 y => ?_, fun H2 ρ2 B2 k kp => ⟨vs, kp.tup _ _ h, by rw [r.length]; exact Nat.le_refl _⟩⟩
  · obtain ⟨v, e, _⟩ := r.get (List.getElem?_eq_getElem hi)
    exact ⟨vs, v, kp.tup _ _ h, e⟩
  · obtain ⟨e3, y⟩ := y
    subst e3
    obtain ⟨v, e1, r1⟩ := r.get e
    have e2 := y vs (kp.tup _ _ h)
    rw [e1] at e2
    cases e2
    exact ⟨Ext.refl, s2, VR.mono kp _ _ r1⟩
theorem rangeD_len (lo hi : Int) : (rangeD lo hi).length = (hi - lo).toNat := by unfold rangeD; simp
theorem iter_rng {lo hi : Int} : IterOk G (Itr lo (hi - lo).toNat) H ρ B (rangeD lo hi) := by
  refine ⟨fun H2 ρ2 B2 k kp i h => by rw [rangeD_len] at h; exact h, fun H2 ρ2 B2 S2 k kp s2 i d e x H3 y => ?_, fun H2 ρ2 B2 k kp => by rw [rangeD_len]; exact Nat.le_refl _⟩
  obtain ⟨e3, y⟩ := y
  subst e3
  subst y
  unfold rangeD at e
  rw [List.getElem?_map] at e
  obtain ⟨n, e1, e2⟩ := Option.map_eq_some_iff.mp e
  have hn : n = i := by
    obtain ⟨hi, e3⟩ := List.getElem?_eq_some_iff.mp e1
    simp at e3
    exact e3.symm
  subst hn
  subst e2
  exact ⟨Ext.refl, s2, .int _⟩
/-- a list or a tuple -/
theorem pi_seq (h : PE X e (tE G C ex)) (hK : X.K = G.K) : PI X tg e (tI G C (.seq ex)) := by
  refine ⟨fun pins s0 σ H R I w => ?_⟩
  obtain ⟨env, S, ρ, B, B0, ds, S', s, er, ev, q⟩ := w
  rw [evI] at ev
  obtain ⟨⟨d, S1⟩, e1, e2⟩ := Option.bind_eq_some_iff.mp ev
  cases d <;> first | (cases e2; done) | skip
  · cases e2
    exact (pi_tup h).run pins s0 σ H R I ⟨env, S, ρ, B, B0, _, _, s, er, e1, fun v H' ρ' x s' r => by
      cases r with
      | tup hq rr => exact ⟨_, rfl, ⟨_, by rw [hK]; exact hq⟩, by rw [hK]; exact q _ _ _ x s' (iter_tup hq rr)⟩⟩
  · cases e2
    exact (pi_list h).run pins s0 σ H R I ⟨env, S, ρ, B, B0, _, _, s, er, e1, fun v H' ρ' x s' r => by
      cases r with
      | lst hq rr => exact ⟨_, rfl, ⟨_, SqL.of hq.1⟩, q _ _ _ x s' (iter_lst hq rr)⟩⟩
theorem sm62 {i : Int} (h : small62 i = true) : -(2 ^ 62) ≤ i ∧ i < 2 ^ 62 := by
  unfold small62 at h
  rw [Bool.and_eq_true, decide_eq_true_eq, decide_eq_true_eq] at h
  exact h
theorem sim_rng1 (hg : Gl X "range") (hm : X.mg "range" = none) (h : PE X a (tE G C ea)) (hs : starEach [a] X.env = [(false, eval a X.env)]) : PI X tg (.Call (.Name "range" p) [a] [] pos) (tI G C (.rng1 ea)) :=
  impI (pi_range1 hg hm (sim_cons h sim_nil hs) hs) fun σ H R ⟨env, S, ρ, B, B0, ds, S', s, er, ev, q⟩ => by
    rw [evI] at ev
    obtain ⟨⟨d, S1⟩, i, e1, e2, e3⟩ := bind2 ev
    cases int_of e2
    split at e3
    · rename_i hz
      cases e3
      refine ⟨env, S, ρ, B, B0, [_], _, s, er, by rw [evEs, e1]; rfl, fun vs H' ρ' x s' r => ?_⟩
      cases r with
      | cons r1 r2 =>
        cases r2
        cases r1
        obtain ⟨h1, h2⟩ := sm62 hz
        refine ⟨i, rfl, h1, h2, q _ _ _ x s' ?_⟩
        have := iter_rng (G := G) (H := H') (ρ := ρ') (B := B) (lo := 0) (hi := i)
        rw [Int.sub_zero] at this
        exact this
    · cases e3
theorem sim_rng2 (hg : Gl X "range") (hm : X.mg "range" = none) (h : PE X a (tE G C ea)) (hb : PE X b (tE G C eb)) (hs : starEach [a, b] X.env = [(false, eval a X.env), (false, eval b X.env)]) (hs2 : starEach [b] X.env = [(false, eval b X.env)]) :
    PI X tg (.Call (.Name "range" p) [a, b] [] pos) (tI G C (.rng2 ea eb)) :=
  impI (pi_range2 hg hm (sim_cons h (sim_cons hb sim_nil hs2) (by rw [hs, hs2])) hs hs2) fun σ H R ⟨env, S, ρ, B, B0, ds, S', s, er, ev, q⟩ => by
    rw [evI] at ev
    obtain ⟨⟨d1, S1⟩, ⟨d2, S2⟩, e1, e2, e3⟩ := bind2 ev
    obtain ⟨i, j, e4, e5, e6⟩ := bind2 e3
    cases int_of e4
    cases int_of e5
    split at e6
    · rename_i hz
      cases e6
      rw [Bool.and_eq_true] at hz
      refine ⟨env, S, ρ, B, B0, [_, _], _, s, er, by rw [evEs, e1]; show Option.map _ (evEs C (.cons eb .nil) env S1) = _; rw [evEs, e2]; rfl, fun vs H' ρ' x s' r => ?_⟩
      cases r with
      | cons r1 r2 =>
        cases r2 with
        | cons r3 r4 =>
          cases r4
          cases r1
          cases r3
          obtain ⟨h1, h2⟩ := sm62 hz.1
          obtain ⟨h3, h4⟩ := sm62 hz.2
          exact ⟨i, j, rfl, ⟨h1, h2, h3, h4⟩, q _ _ _ x s' iter_rng⟩
    · cases e6
end
end Wf
set_option Elab.async false
set_option linter.all false
namespace Wf
open PySem L2
open PyProof.Rows hiding St
variable {G : Cr} {C : Orc}

/-! ### unpacking with a star, at the heap's level -/
section
variable {prog : Program} {w : World} {A : Around} {E : Value → Shared → Prop} {s : Shared} {l : Addr} {n i : Nat}
/-- the end, whatever was walked -/
theorem star_end {its : List Value} {Q : List Value → Shared → Prop} (hi : i < n) (hn : n ≤ its.length + 1) (hz : its.length ≤ sizeLine) {first rest : List Value} (e1 : first = its.take i) (e2 : rest = its.drop i)
    (h : Q (its.take i ++ [.ref s.heap.objs.size] ++ (its.drop i).drop (its.length + 1 - n)) { s with heap := s.heap.push { cls := .type "list", data := .seq ((its.drop i).take (its.length + 1 - n)).toArray } }) :
    wpAny (model prog w) A (do
      if rest.length < n - 1 - i then
        rule "unpack.star.too-few"
        raiseError "ValueError" s!"not enough values to unpack (expected at least {n - 1}, got {i + rest.length})"
      return first ++ [← newList (rest.take (rest.length - (n - 1 - i)))] ++ rest.drop (rest.length - (n - 1 - i))) Q E s := by
  subst e1
  subst e2
  have h1 : (its.drop i).length = its.length - i := List.length_drop
  have h2 : (its.drop i).length - (n - 1 - i) = its.length + 1 - n := by omega
  rw [if_neg (by omega), h2]
  exact wpAny_bind (wpAny_newList (wpAny_pure h) (by rw [List.length_take]; omega))
theorem star_tup {items : Array Value} {Q : List Value → Shared → Prop} (hl : IsTup s.heap l items) (hh : A.handled = none) (hi : i < n) (hn : n ≤ items.toList.length + 1) (hz : items.size ≤ sizeLine)
    (h : ∀ (h' : Heap) (tk : Nat), (∀ b o, s.heap.get? b = some o → h'.get? b = some o) →
      Q (items.toList.take i ++ [.ref h'.objs.size] ++ (items.toList.drop i).drop (items.toList.length + 1 - n)) { s with heap := h'.push { cls := .type "list", data := .seq ((items.toList.drop i).take (items.toList.length + 1 - n)).toArray }, toks := tk }) :
    wpAny (model prog w) A (unpackItems (.ref l) n (some i)) Q E s := by
  obtain ⟨o0, g0, _⟩ := id hl
  have lt0 := Heap.lt_size g0
  have ne0 : l ≠ s.heap.objs.size := Nat.ne_of_lt lt0
  have hlen : items.toList.length = items.size := Array.length_toList
  unfold unpackItems notIterableAtAll
  refine wpAny_bind (wpAny_bind (wpAny_specialOf hl.typeIs slot_tuple_iter.lookup (wpAny_pure ?_)))
  rw [if_neg (by decide)]
  refine wpAny_bind (wpAny_holding (iter_tuple hl (wpAny_bind (wpAny_holding ?_))))
  refine draw_tuple ne0 i 0 _ _ ⟨_, Heap.get?_push_size _ rfl, rfl, rfl⟩ (hl.push _) (by omega) fun h1 it1 sb1 => ?_
  have tp1 : IsTup h1 l items := (hl.push _).extBut sb1.extBut ne0
  rw [Nat.zero_add] at it1
  obtain ⟨oi, goi, _⟩ := id it1
  obtain ⟨ol, gol, _⟩ := id tp1
  rw [List.drop_zero, if_neg (by rw [List.length_take]; omega)]
  refine wpAny_bind (wpAny_holding (PySem.W.kun_collect (s := { s with heap := h1 }) (T := "tuple_iterator") (.inr (.inr (.inr rfl))) (Walks.tuple (A := A.in1) hh s.heap.objs.size l ne0 items)
    (fun _ _ st => st.1.typeIs) (k := i) (by omega) ⟨it1, tp1⟩ (Heap.lt_size goi) (Heap.lt_size gol) (fun h2 tk kp => ?_) hz))
  have kept : ∀ b o, s.heap.get? b = some o → h2.get? b = some o := fun b o e => by
    have nb := Nat.ne_of_lt (Heap.lt_size e)
    exact kp b o nb (sb1.extBut b o nb (Heap.get?_push_of_some _ e))
  exact star_end (s := { s with heap := h2, toks := tk }) (its := items.toList) hi hn (by omega) rfl rfl (h h2 tk kept)
theorem star_lst {items : Array Value} {Q : List Value → Shared → Prop} (hl : s.heap.IsList l items) (hh : A.handled = none) (hi : i < n) (hn : n ≤ items.toList.length + 1) (hz : items.size ≤ sizeLine)
    (h : ∀ (h' : Heap) (tk : Nat), (∀ b o, s.heap.get? b = some o → h'.get? b = some o) →
      Q (items.toList.take i ++ [.ref h'.objs.size] ++ (items.toList.drop i).drop (items.toList.length + 1 - n)) { s with heap := h'.push { cls := .type "list", data := .seq ((items.toList.drop i).take (items.toList.length + 1 - n)).toArray }, toks := tk }) :
    wpAny (model prog w) A (unpackItems (.ref l) n (some i)) Q E s := by
  obtain ⟨o0, g0, _⟩ := id hl
  have ne0 : l ≠ s.heap.objs.size := Nat.ne_of_lt (Heap.lt_size g0)
  have hlen : items.toList.length = items.size := Array.length_toList
  unfold unpackItems notIterableAtAll
  refine wpAny_bind (wpAny_bind (wpAny_specialOf hl.typeIs slot_list_iter.lookup (wpAny_pure ?_)))
  rw [if_neg (by decide)]
  refine wpAny_bind (wpAny_holding (wpAny_pyIter_list hl (wpAny_bind (wpAny_holding ?_))))
  refine PySem.W.kun_draw ne0 i 0 _ _ ⟨_, Heap.get?_push_size _ rfl, rfl, rfl⟩ (hl.push _) (by omega) fun h1 it1 sb1 => ?_
  have tp1 : h1.IsList l items := (hl.push _).extBut sb1.extBut ne0
  rw [Nat.zero_add] at it1
  obtain ⟨oi, goi, _⟩ := id it1
  obtain ⟨ol, gol, _⟩ := id tp1
  rw [List.drop_zero, if_neg (by rw [List.length_take]; omega)]
  refine wpAny_bind (wpAny_holding (PySem.W.kun_collect (s := { s with heap := h1 }) (T := "list_iterator") (.inr (.inr (.inl rfl))) (Walks.list (A := A.in1) hh s.heap.objs.size l ne0 items)
    (fun _ _ st => st.1.typeIs) (k := i) (by omega) ⟨it1, tp1⟩ (Heap.lt_size goi) (Heap.lt_size gol) (fun h2 tk kp => ?_) hz))
  have kept : ∀ b o, s.heap.get? b = some o → h2.get? b = some o := fun b o e => by
    have nb := Nat.ne_of_lt (Heap.lt_size e)
    exact kp b o nb (sb1.extBut b o nb (Heap.get?_push_of_some _ e))
  exact star_end (s := { s with heap := h2, toks := tk }) (its := items.toList) hi hn (by omega) rfl rfl (h h2 tk kept)
end

/-! ### slots stored -/
def Off (l : List Nat) (σ σ' : St) : Prop := σ'.length = σ.length ∧ ∀ i, i ∉ l → σ'[i]? = σ[i]?
theorem Off.refl {l : List Nat} {σ : St} : Off l σ σ := ⟨rfl, fun _ _ => rfl⟩
theorem Off.trans {l m : List Nat} {σ σ1 σ2 : St} (a : Off l σ σ1) (b : Off m σ1 σ2) : Off (l ++ m) σ σ2 :=
  ⟨b.1.trans a.1, fun i h => by
    rw [List.mem_append, not_or] at h
    rw [b.2 i h.2, a.2 i h.1]⟩
theorem ER.set {H : Hp} {ρ B B0 : List Addr} {σ : St} {env : Env} {i : Nat} {d : D} {v : V} (t : ER G H ρ B B0 σ env) (r : VR G H ρ B d v) : ER G H ρ B B0 (σ.set i (some v)) (setS env i d) := by
  have hl := t.len
  refine ⟨by unfold setS; rw [List.length_set, List.length_set]; exact hl, fun j x e => ?_, fun j k x y a e1 e2 o1 o2 s1 s2 => ?_⟩
  · unfold setS at e
    by_cases h : j = i
    · subst h
      have hj : j < env.length := by
        have := (List.getElem?_eq_some_iff.mp e).1
        rwa [List.length_set] at this
      rw [List.getElem?_set_self hj] at e
      cases e
      exact .fz (by rw [List.getElem?_set_self (by rw [hl]; exact hj)]) r
    · rw [List.getElem?_set_ne (Ne.symm h)] at e
      cases t.sl j x e with
      | un => exact .un
      | fz e1 q => exact .fz (by rw [List.getElem?_set_ne (Ne.symm h)]; exact e1) q
      | ol e1 hb hn hh q => exact .ol (by rw [List.getElem?_set_ne (Ne.symm h)]; exact e1) hb hn hh q
      | od e1 hb hn hh q => exact .od (by rw [List.getElem?_set_ne (Ne.symm h)]; exact e1) hb hn hh q
  · unfold setS at e1 e2
    have ni : ∀ {j : Nat} {x : Sl}, (env.set i (.fz d))[j]? = some x → isOwn x = true → j ≠ i := fun {j x} e o h => by
      subst h
      have hj : j < env.length := by
        have := (List.getElem?_eq_some_iff.mp e).1
        rwa [List.length_set] at this
      rw [List.getElem?_set_self hj] at e
      cases e
      cases o
    have nj := ni e1 o1
    have nk := ni e2 o2
    rw [List.getElem?_set_ne (Ne.symm nj)] at e1 s1
    rw [List.getElem?_set_ne (Ne.symm nk)] at e2 s2
    exact t.apart j k x y a e1 e2 o1 o2 s1 s2

/-! ### targets -/
def tG (G : Cr) (t : T) : TG := fun v σ H Q => ∃ env S ρ B B0 d env', SR G H ρ B S ∧ ER G H ρ B B0 σ env ∧ VR G H ρ B d v ∧ asgT t d env = some env' ∧ ∀ σ' H', Ext H ρ H' ρ → SR G H' ρ B S → ER G H' ρ B B0 σ' env' → Off t.sl σ σ' → Q σ' H'
def tGs (G : Cr) (ts : Ts) : TGs := fun vs σ H Q => ∃ env S ρ B B0 ds env', SR G H ρ B S ∧ ER G H ρ B B0 σ env ∧ VRs G H ρ B ds vs ∧ asgTs ts ds env = some env' ∧ ∀ σ' H', Ext H ρ H' ρ → SR G H' ρ B S → ER G H' ρ B B0 σ' env' → Off ts.sl σ σ' → Q σ' H'
section
variable {X : Cx} {e : Expr} {es : List Expr} {t : T} {ts : Ts} {pos : Pos}
theorem impG {X : Cx} {tg : Expr} {t u : TG} (h : PG X tg t) (f : ∀ v σ H Q, u v σ H Q → t v σ H Q) : PG X tg u := ⟨fun pins s σ H v w Q I r q => h.run pins s σ H v w Q I r (f v σ H Q q)⟩
theorem impGs {X : Cx} {tg : List Expr} {t u : TGs} (h : PGs X tg t) (f : ∀ v σ H Q, u v σ H Q → t v σ H Q) : PGs X tg u := ⟨fun pins s σ H v w Q I r q => h.run pins s σ H v w Q I r (f v σ H Q q)⟩
theorem off_set {σ : St} {i : Nat} {v : V} : Off [i] σ (σ.set i (some v)) := ⟨List.length_set, fun j h => by rw [List.getElem?_set_ne]; intro z; exact h (by rw [z]; exact List.mem_singleton.mpr rfl)⟩
theorem sim_nm {i : Nat} {x : Str} (hN : X.N.Nodup) (hi : X.N[i]? = some x) (hx : Loc X.env.scope x) (hf : X.fn x = true ∨ X.env.scope.names.lookup x = some .local) : PG X (.Name x pos) (tG G (.nm i)) :=
  impG (pg_name hN hi hx hf) fun v σ H Q ⟨env, S, ρ, B, B0, d, env', s, er, r, e, q⟩ => by
    rw [asgT] at e
    cases e
    exact q _ _ Ext.refl s (er.set r) off_set
theorem simG_nil : PGs X [] (tGs G .nil) := impGs pgs_nil fun vs σ H Q ⟨env, S, ρ, B, B0, ds, env', s, er, r, e, q⟩ => by
  cases r with
  | nil => rw [asgTs] at e; cases e; exact ⟨rfl, q _ _ Ext.refl s er Off.refl⟩
  | cons a b => rw [asgTs] at e <;> first | (cases e; done) | (intros; simp_all)
theorem simG_cons (h1 : PG X e (tG G t)) (h2 : PGs X es (tGs G ts)) (hs : (assignEach (e :: es) X.env).map (·.2) = assign e X.env :: (assignEach es X.env).map (·.2)) : PGs X (e :: es) (tGs G (.cons t ts)) :=
  impGs (pgs_cons h1 h2 hs) fun vs σ H Q ⟨env, S, ρ, B, B0, ds, env', s, er, r, e, q⟩ => by
    cases r with
    | nil => rw [asgTs] at e <;> first | (cases e; done) | (intros; simp_all)
    | cons ra rb =>
      rw [asgTs] at e
      obtain ⟨env1, e1, e2⟩ := Option.bind_eq_some_iff.mp e
      exact ⟨_, _, rfl, env, S, ρ, B, B0, _, env1, s, er, ra, e1, fun σ1 H1 x1 s1 er1 o1 => ⟨env1, S, ρ, B, B0, _, env', s1, er1, rb.ext s x1, e2, fun σ2 H2 x2 s2 er2 o2 => q _ _ (x1.trans x2) s2 er2 (o1.trans o2)⟩⟩
theorem asgTs_len : ∀ {ts : Ts} {ds : List D} {env env' : Env}, asgTs ts ds env = some env' → ds.length = ts.len
  | .nil, [], _, _, _ => rfl
  | .nil, _ :: _, _, _, e => by rw [asgTs] at e <;> first | (cases e; done) | (intros; simp_all)
  | .cons _ _, [], _, _, e => by rw [asgTs] at e <;> first | (cases e; done) | (intros; simp_all)
  | .cons t ts, d :: ds, env, env', e => by
    rw [asgTs] at e
    obtain ⟨env1, e1, e2⟩ := Option.bind_eq_some_iff.mp e
    exact congrArg Nat.succ (asgTs_len e2)
/-- the rest of an unpacking: what came is stored -/
theorem sim_tp {k : Nat} (hc : X.calm = true) (hK : X.K = G.K) (h : PGs X es (tGs G ts)) (hn : (assignEach es X.env).length = ts.len) (hst : (assignEach es X.env).findIdx? (·.1) = none) : PG X (.Tuple es k pos) (tG G (.tp ts)) := by
  refine ⟨fun pins s0 σ H v u Q I ru hw => ?_⟩
  obtain ⟨env, S, ρ, B, B0, d, env', s, er, r, e, q⟩ := hw
  rw [asgT] at e
  obtain ⟨xs, e1, e2⟩ := Option.bind_eq_some_iff.mp e
  have hl := asgTs_len e2
  cases d <;> first | (cases e1; done) | skip
  · cases e1
    cases r with
    | tup hq rr =>
      cases ru
      obtain ⟨its, rv, ht, hz⟩ := I.tuple (by rw [hK]; exact hq)
      refine assign_Tuple_tuple (I.ok.hd hc) ht (by rw [hn, ← hl, ← rr.length, rv.length]; simp) hst fun h' hx => ?_
      have I1 : Inv X pins σ H { s0 with heap := h' } := I.kept (t' := s0.toks) fun b o e => hx b o (Nat.ne_of_lt (Heap.lt_size e)) e
      exact h.run pins _ σ H _ _ Q I1 (by simpa using rv) ⟨env, S, ρ, B, B0, _, env', s, er, rr, e2, q⟩
  · cases e1
    cases r with
    | lst hq rr =>
      cases ru
      obtain ⟨its, rv, ht, hz⟩ := I.list (SqL.of hq.1)
      rw [assign_Tuple]
      refine wpAny_bind (wpAny_standAt ?_)
      unfold unpack
      have hsz : its.toArray.size = ts.len := by rw [List.size_toArray, ← rv.length, rr.length, hl]
      rw [hn, hst, ← hsz]
      refine wpAny_bind (wpAny_holding (PySem.W.kun_itemsOf (I.ok.hd hc) ht.isList fun h' hx => ?_))
      have I1 : Inv X pins σ H { s0 with heap := h' } := I.kept (t' := s0.toks) fun b o e => hx b o (Nat.ne_of_lt (Heap.lt_size e)) e
      exact h.run pins _ σ H _ _ Q I1 (by simpa using rv) ⟨env, S, ρ, B, B0, _, env', s, er, rr, e2, q⟩
/-- the star's target without its star -/
def unstar : Expr → Expr
  | .Starred t _ => t
  | e => e
theorem unstar_each (env : PySem.Env) : ∀ es : List Expr, (es.map unstar).all (fun e => match e with | .Starred _ _ => false | _ => true) = true → (assignEach (es.map unstar) env).map (·.2) = (assignEach es env).map (·.2)
  | [], _ => rfl
  | e :: es, h => by
    rw [List.map_cons, List.all_cons, Bool.and_eq_true] at h
    have ih := unstar_each env es h.2
    cases e <;> first
      | exact congrArg (List.cons (assign _ env)) ih
      | (rename_i t p
         have h1 := h.1
         show (assignEach (t :: es.map unstar) env).map (·.2) = assign t env :: (assignEach es env).map (·.2)
         cases t <;> first
           | exact congrArg (List.cons (assign _ env)) ih
           | cases h1)
theorem VRs.star {H : Hp} {ρ B : List Addr} {ds : List D} {vs : List V} {n i : Nat} {p : Addr} {S : Sto} (s : SR G H ρ B S) (hp : H p = none) (r : VRs G H ρ B ds vs) :
    VRs G (upd H p (.lst ((vs.drop i).take (vs.length + 1 - n)))) ρ B (starD ds n i) (vs.take i ++ [.ref p] ++ (vs.drop i).drop (vs.length + 1 - n)) := by
  have x : Ext H ρ (upd H p (.lst ((vs.drop i).take (vs.length + 1 - n)))) ρ := Ext.laid hp
  have rr := r.ext s x
  unfold starD
  rw [← r.length]
  refine ((rr.take i).append (.cons (.lst ⟨upd_same, fun z => s.tracked z hp, fun z => (s.bt p z).1 hp⟩ ((rr.drop i).take _)) .nil)).append ((rr.drop i).drop _)
theorem sim_st {k i : Nat} (hc : X.calm = true) (hK : X.K = G.K) (h : PGs X (es.map unstar) (tGs G ts)) (hun : (es.map unstar).all (fun e => match e with | .Starred _ _ => false | _ => true) = true) (hn : (assignEach es X.env).length = ts.len) (hst : (assignEach es X.env).findIdx? (·.1) = some i) : PG X (.Tuple es k pos) (tG G (.st ts i)) := by
  refine ⟨fun pins s0 σ H v u Q I ru hw => ?_⟩
  obtain ⟨env, S, ρ, B, B0, d, env', s, er, r, e, q⟩ := hw
  rw [asgT] at e
  obtain ⟨xs, e1, e2⟩ := Option.bind_eq_some_iff.mp e
  split at e2
  · rename_i hcond
    have done : ∀ {its : List Value} {vs : List V} {h' : Heap} {tk : Nat}, Vals vs its → VRs G H ρ B xs vs → vs.length ≤ sizeLine → (∀ b o, s0.heap.get? b = some o → h'.get? b = some o) →
        wpAny (model X.prog X.w) X.A (assignInOrder ((assignEach es X.env).map (·.2)) (its.take i ++ [.ref h'.objs.size] ++ (its.drop i).drop (its.length + 1 - ts.len))) (fun _ s' => ∃ σ' H', Inv X pins σ' H' s' ∧ Q σ' H') X.xe
          { s0 with heap := h'.push { cls := .type "list", data := .seq ((its.drop i).take (its.length + 1 - ts.len)).toArray }, toks := tk } := by
      intro its vs h' tk rv rr hz kp
      have I1 : Inv X pins σ H { s0 with heap := h', toks := tk } := I.kept kp
      have hf : H h'.objs.size = none := I1.hok.fresh (Nat.le_refl _)
      have hlv : vs.length = its.length := rv.length
      have rmid : Vals ((vs.drop i).take (its.length + 1 - ts.len)) ((its.drop i).take (its.length + 1 - ts.len)) := (rv.drop i).take _
      have I2 : Inv X pins σ (upd H h'.objs.size (.lst ((vs.drop i).take (its.length + 1 - ts.len)))) { s0 with heap := h'.push { cls := .type "list", data := .seq ((its.drop i).take (its.length + 1 - ts.len)).toArray }, toks := tk } := by
        refine I1.laid (t' := tk) (fun b o e => Heap.get?_push_of_some _ e) (Nat.le_refl _) ⟨?_, _, 0, rmid, Heap.get?_push_size _ rfl⟩
        rw [List.length_take, List.length_drop]
        omega
      rw [← unstar_each X.env es hun]
      rw [← hlv] at I2 ⊢
      refine h.run pins _ σ _ (vs.take i ++ [.ref h'.objs.size] ++ (vs.drop i).drop (vs.length + 1 - ts.len)) _ Q I2 (((rv.take i).append (.cons (show RelV (.ref h'.objs.size) (.ref h'.objs.size) from rfl) .nil)).append ((rv.drop i).drop _)) ?_
      exact ⟨env, S, ρ, B, B0, _, env', s.laid hf, er.ext s (Ext.laid hf), VRs.star s hf rr, e2, fun σ' H' x s' er' o => q _ _ ((Ext.laid hf).trans x) s' er' o⟩
    cases d <;> first | (cases e1; done) | skip
    · cases e1
      cases r with
      | tup hq rr =>
        cases ru
        obtain ⟨its, rv, ht, hz⟩ := I.tuple (by rw [hK]; exact hq)
        rw [assign_Tuple]
        refine wpAny_bind (wpAny_standAt ?_)
        unfold unpack
        rw [hn, hst]
        have hl1 : its.length = xs.length := by rw [← rv.length, rr.length]
        exact wpAny_bind (wpAny_holding (star_tup ht (I.ok.hd hc) hcond.1 (by show ts.len ≤ its.length + 1; rw [hl1]; exact hcond.2) (by rw [List.size_toArray, ← rv.length]; exact hz) fun h' tk kp => done rv rr hz kp))
    · cases e1
      cases r with
      | lst hq rr =>
        cases ru
        obtain ⟨its, rv, ht, hz⟩ := I.list (SqL.of hq.1)
        rw [assign_Tuple]
        refine wpAny_bind (wpAny_standAt ?_)
        unfold unpack
        rw [hn, hst]
        have hl1 : its.length = xs.length := by rw [← rv.length, rr.length]
        exact wpAny_bind (wpAny_holding (star_lst ht.isList (I.ok.hd hc) hcond.1 (by show ts.len ≤ its.length + 1; rw [hl1]; exact hcond.2) (by rw [List.size_toArray, ← rv.length]; exact hz) fun h' tk kp => done rv rr hz kp))
  · cases e2
end
end Wf
set_option Elab.async false
set_option linter.all false
namespace Wf
open PySem L2
variable {G : Cr} {C : Orc}
section
variable {H H' : Hp} {ρ ρ' B B0 : List Addr} {S : Sto} {p : Addr} {o : HO} {σ : St} {env : Env}
theorem keep_reban (mo : Mut (H p)) : Keep G (era H p) ρ B H ρ (p :: B) := by
  have ne : ∀ a u, era H p a = some u → a ≠ p ∧ H a = some u := fun a u e => by
    by_cases z : a = p
    · rw [z, era_same] at e; cases e
    · rw [era_ne z] at e; exact ⟨z, e⟩
  refine ⟨fun a vs q => ?_, fun a vs q => ?_, fun a vs q => ?_, fun a vs q => ?_, fun _ _ e => e⟩
  · rcases q with (q | ⟨ob, q⟩) | q
    · exact .inl (.inl (ne _ _ q).2)
    · exact .inl (.inr ⟨ob, (ne _ _ q).2⟩)
    · exact .inr q
  · exact ⟨(ne _ _ q.1).2, q.2.1, by simp only [List.mem_cons, not_or]; exact ⟨(ne _ _ q.1).1, q.2.2⟩⟩
  · exact ⟨(ne _ _ q.1).2, q.2.1, by simp only [List.mem_cons, not_or]; exact ⟨(ne _ _ q.1).1, q.2.2⟩⟩
  · rcases q with ⟨ob, q⟩ | q
    · exact .inl ⟨ob, (ne _ _ q).2⟩
    · exact .inr q
theorem Keep.trans {H1 H2 : Hp} {ρ1 ρ2 B1 B2 : List Addr} (a : Keep G H ρ B H1 ρ1 B1) (b : Keep G H1 ρ1 B1 H2 ρ2 B2) : Keep G H ρ B H2 ρ2 B2 :=
  ⟨fun x vs q => b.tup x vs (a.tup x vs q), fun x vs q => b.lst x vs (a.lst x vs q), fun x vs q => b.dct x vs (a.dct x vs q), fun x vs q => b.scr x vs (a.scr x vs q), fun i x q => b.ref i x (a.ref i x q)⟩
theorem ER.keep {B' : List Addr} (t : ER G H ρ B B0 σ env) (k : Keep G H ρ B H' ρ' B') (ko : ∀ a u, a ∈ B → H a = some u → H' a = some u) (kb : ∀ a ∈ B, a ∈ B') : ER G H' ρ' B' B0 σ env := by
  refine ⟨t.len, fun i x e => ?_, t.apart⟩
  cases t.sl i x e with
  | un => exact .un
  | fz e1 r => exact .fz e1 (VR.mono k _ _ r)
  | ol e1 hb hn hh r => exact .ol e1 (kb _ hb) hn (ko _ _ hb hh) (VRs.mono k _ _ r)
  | od e1 hb hn hh r => exact .od e1 (kb _ hb) hn (ko _ _ hb hh) (VRk.mono k _ _ r)
theorem ER.wipe1 {i : Nat} (t : ER G H ρ B B0 σ env) : ER G H ρ B B0 (σ.set i none) (env.set i .un) := by
  have hl := t.len
  have ni : ∀ {j : Nat} {x : Sl}, (env.set i .un)[j]? = some x → isOwn x = true → j ≠ i := fun {j x} e o h => by
    subst h
    have hj : j < env.length := by
      have := (List.getElem?_eq_some_iff.mp e).1
      rwa [List.length_set] at this
    rw [List.getElem?_set_self hj] at e
    cases e
    cases o
  refine ⟨by rw [List.length_set, List.length_set]; exact hl, fun j x e => ?_, fun j k x y a e1 e2 o1 o2 s1 s2 => ?_⟩
  · by_cases h : j = i
    · subst h
      have hj : j < env.length := by
        have := (List.getElem?_eq_some_iff.mp e).1
        rwa [List.length_set] at this
      rw [List.getElem?_set_self hj] at e
      cases e
      exact .un
    · rw [List.getElem?_set_ne (Ne.symm h)] at e
      cases t.sl j x e with
      | un => exact .un
      | fz e1 q => exact .fz (by rw [List.getElem?_set_ne (Ne.symm h)]; exact e1) q
      | ol e1 hb hn hh q => exact .ol (by rw [List.getElem?_set_ne (Ne.symm h)]; exact e1) hb hn hh q
      | od e1 hb hn hh q => exact .od (by rw [List.getElem?_set_ne (Ne.symm h)]; exact e1) hb hn hh q
  · have nj := ni e1 o1
    have nk := ni e2 o2
    rw [List.getElem?_set_ne (Ne.symm nj)] at e1 s1
    rw [List.getElem?_set_ne (Ne.symm nk)] at e2 s2
    exact t.apart j k x y a e1 e2 o1 o2 s1 s2
theorem ER.wipe (t : ER G H ρ B B0 σ env) : ∀ own : List Nat, ER G H ρ B B0 (L2.wipe σ own) (wipeS env own)
  | [] => t
  | v :: vs => (ER.wipe t vs).wipe1
theorem wipe_get {σ : St} {i : Nat} : ∀ {vs : List Nat}, (L2.wipe σ vs)[i]? = if i ∈ vs then (if i < σ.length then some none else none) else σ[i]?
  | [] => by simp [L2.wipe]
  | v :: vs => by
    unfold L2.wipe
    by_cases h : v = i
    · subst h
      rw [if_pos List.mem_cons_self]
      by_cases hl : v < σ.length
      · rw [if_pos hl, List.getElem?_set_self (by rw [wipe_length]; exact hl)]
      · rw [if_neg hl, List.getElem?_eq_none (by rw [List.length_set, wipe_length]; omega)]
    · rw [List.getElem?_set_ne h, wipe_get (vs := vs)]
      by_cases h2 : i ∈ vs
      · rw [if_pos h2, if_pos (List.mem_cons_of_mem _ h2)]
      · rw [if_neg h2, if_neg (by simp only [List.mem_cons, not_or]; exact ⟨fun z => h z.symm, h2⟩)]
theorem wipe_off {σ σ2 : St} {l own : List Nat} (o : Off l (L2.wipe σ own) σ2) (h : ∀ i ∈ l, i ∈ own) : L2.wipe σ2 own = L2.wipe σ own := by
  apply List.ext_getElem?
  intro i
  have hl : σ2.length = σ.length := by rw [o.1, wipe_length]
  rw [wipe_get, wipe_get, hl]
  by_cases hi : i ∈ own
  · rw [if_pos hi, if_pos hi]
  · rw [if_neg hi, if_neg hi, o.2 i fun z => hi (h i z), wipe_get, if_neg hi]
theorem Ext.era (e : Ext H ρ H' ρ') (hp : H p ≠ none) (np : p ∉ ρ) : Ext (era H p) ρ (Wf.era H' p) ρ' := by
  have ne : ∀ a u, Wf.era H p a = some u → a ≠ p ∧ H a = some u := fun a u e => by
    by_cases z : a = p
    · rw [z, era_same] at e; cases e
    · rw [era_ne z] at e; exact ⟨z, e⟩
  refine ⟨fun a u h n => ?_, fun a h => ?_, ?_⟩
  · obtain ⟨h1, h2⟩ := ne a u h
    rw [era_ne h1]; exact e.keep a u h2 n
  · have h1 : a ≠ p := fun z => h (by rw [z]; exact era_same)
    rw [era_ne h1] at h ⊢
    exact e.there a h
  · obtain ⟨n, e1, e2⟩ := e.new
    refine ⟨n, e1, fun q hq => ?_⟩
    by_cases z : q = p
    · rw [z]; exact era_same
    · rw [era_ne z]; exact e2 q hq
theorem keep_own (hb : p ∈ B) (mo : Mut (H p)) : Keep G H ρ B (upd H p o) ρ B := by
  have nt : ∀ a u, H a = some u → ¬ Mut (some u) → a ≠ p := fun a u e n z => by
    subst z; rw [e] at mo; exact n mo
  refine ⟨fun a vs q => ?_, fun a vs q => ?_, fun a vs q => ?_, fun a vs q => ?_, fun _ _ e => e⟩
  · rcases q with (q | ⟨ob, q⟩) | q
    · exact .inl (.inl (by rw [upd_ne (nt a _ q fun z => z)]; exact q))
    · exact .inl (.inr ⟨ob, by rw [upd_ne (nt a _ q fun z => z)]; exact q⟩)
    · exact .inr q
  · exact ⟨by rw [upd_ne (show a ≠ p from fun z => q.2.2 (z ▸ hb))]; exact q.1, q.2⟩
  · exact ⟨by rw [upd_ne (show a ≠ p from fun z => q.2.2 (z ▸ hb))]; exact q.1, q.2⟩
  · rcases q with ⟨ob, q⟩ | q
    · exact .inl ⟨ob, by rw [upd_ne (nt a _ q fun z => z)]; exact q⟩
    · exact .inr q
theorem SR.own (s : SR G H ρ B S) (hb : p ∈ B) (mo : Mut (H p)) : SR G (upd H p o) ρ B S := by
  have np := (s.bt p hb).2
  refine s.same (keep_own hb mo) (fun a ha => upd_ne fun z => np (z ▸ ha)) fun a ha => ?_
  by_cases z : a = p
  · rw [z, upd_same]; simp
  · rw [upd_ne z]; exact (s.bt a ha).1
theorem era_upd : era (upd H p o) p = era H p := by
  funext a
  by_cases z : a = p
  · rw [z, era_same, era_same]
  · rw [era_ne z, era_ne z, upd_ne z]
end

/-! ### comprehensions -/
def tC (G : Cr) (C : Orc) (c : Oe) : TT := fun σ H Q => ∃ env S ρ B B0 b S', SR G H ρ B S ∧ ER G H ρ B B0 σ env ∧ evC C c env S = some (b, S') ∧ ∀ H' ρ', Ext H ρ H' ρ' → SR G H' ρ' B S' → Q b H'
theorem impTs {X : Cx} {e : List Expr} {t u : TT} (h : PTs X e t) (f : ∀ σ H Q, u σ H Q → t σ H Q) : PTs X e u := ⟨fun pins s σ H Q I w => h.run pins s σ H Q I (f σ H Q w)⟩
theorem simC_none {X : Cx} : PTs X [] (tC G C .none) := impTs pts_nil fun σ H Q ⟨env, S, ρ, B, B0, b, S', s, er, ev, q⟩ => by rw [evC] at ev; cases ev; exact q _ _ Ext.refl s
theorem simC_some {X : Cx} {c : Expr} {ec : E} (h : PT X c (tT G C ec)) : PTs X [c] (tC G C (.some ec)) := impTs (pts_one h) fun σ H Q ⟨env, S, ρ, B, B0, b, S', s, er, ev, q⟩ => by
  rw [evC] at ev
  obtain ⟨⟨d, S1⟩, e1, e2⟩ := Option.bind_eq_some_iff.mp ev
  obtain ⟨k, e3, e4⟩ := Option.map_eq_some_iff.mp e2
  cases e4
  cases bl_of e3
  exact ⟨env, S, ρ, B, B0, _, _, s, er, e1, q⟩
section
variable {X : Cx} {elt tg iter : Expr} {ifs : List Expr} {scope : Scope} {own : List (Str × Nat)} {pos : Pos} {t : T} {it : It} {c : Oe} {ex : E}
/-- of a walk in which no statement runs, owned things may be walked, too -/
structure IterOw (G : Cr) (J : L2.It) (H : Hp) (ρ B : List Addr) (ds : List D) : Prop where
  go : ∀ H2 ρ2 B2, (∀ a o, H a = some o → a ∉ ρ → H2 a = some o) → Keep G H ρ B H2 ρ2 B2 → ∀ i, i < ds.length → J.go i H2
  yld : ∀ H2 ρ2 B2 S2, (∀ a o, H a = some o → a ∉ ρ → H2 a = some o) → Keep G H ρ B H2 ρ2 B2 → SR G H2 ρ2 B2 S2 → ∀ i d, ds[i]? = some d → ∀ x H3, J.yld i H2 x H3 → Ext H2 ρ2 H3 ρ2 ∧ SR G H3 ρ2 B2 S2 ∧ VR G H3 ρ2 B2 d x
  stop : ∀ H2 ρ2 B2, (∀ a o, H a = some o → a ∉ ρ → H2 a = some o) → Keep G H ρ B H2 ρ2 B2 → J.stop ds.length H2
theorem IterOk.ow {J : L2.It} {H : Hp} {ρ B : List Addr} {ds : List D} (h : IterOk G J H ρ B ds) : IterOw G J H ρ B ds :=
  ⟨fun H2 ρ2 B2 k => h.go H2 ρ2 B2 fun a o e n _ => k a o e n, fun H2 ρ2 B2 S2 k => h.yld H2 ρ2 B2 S2 fun a o e n _ => k a o e n, fun H2 ρ2 B2 k => h.stop H2 ρ2 B2 fun a o e n _ => k a o e n⟩
theorem lc_gen {ti : TI} {ow : List Nat} (hsl : ∀ i ∈ t.sl, i ∈ ow) {σ : St} {H : Hp} {Q : VK} {env : Env} {S S1 S2 : Sto} {ρ B B0 : List Addr} {ds out : List D} (s : SR G H ρ B S) (er : ER G H ρ B B0 σ env)
    (hti : ∀ R : L2.It → Hp → Prop, (∀ J H' ρ', Ext H ρ H' ρ' → SR G H' ρ' B S1 → IterOw G J H' ρ' B ds → R J H') → ti σ H R)
    (e3 : lcGo (fun (d : D) (S : Sto) => (asgT t d (wipeS env ow)).bind fun env' => (evC C c env' S).bind fun q => if q.1 then (evE C ex env' q.2).map fun r => (some r.1, r.2) else some (none, q.2)) ds [] S1 = some (out, S2))
    (q : ∀ H' ρ', Ext H ρ H' ρ' → SR G H' ρ' B S2 → Fin G H' ρ' B S2 (.lst out) Q) : tLc ti (tG G t) (tC G C c) (tE G C ex) ow σ H Q := by
  generalize hf : (fun (d : D) (S : Sto) => (asgT t d (wipeS env ow)).bind fun env' => (evC C c env' S).bind fun q => if q.1 then (evE C ex env' q.2).map fun r => (some r.1, r.2) else some (none, q.2)) = f at e3
  refine hti _ fun J H1 ρ1 x1 s1 iok Dn hD => ?_
  have nB : Dn ∉ B := fun z => (s1.bt Dn z).1 hD
  have er1 := er.ext s x1
  let Pv : Nat → Hp → Prop := fun i H => ∃ S ρ acc vs, Ext H1 ρ1 (era H Dn) ρ ∧ SR G H ρ (Dn :: B) S ∧ H Dn = some (.lst vs) ∧ VRs G H ρ (Dn :: B) acc vs ∧ lcGo f (ds.drop i) acc S = some (out, S2)
  refine ⟨fun i m H => m = ds.length - i ∧ i ≤ ds.length ∧ Pv i H, ⟨ds.length, rfl, Nat.zero_le _, S1, ρ1, [], [], ?_, s1.ban hD, upd_same, .nil, e3⟩, ?_⟩
  · rw [era_upd]
    have : era H1 Dn = H1 := by
      funext a
      by_cases z : a = Dn
      · rw [z, era_same, hD]
      · exact era_ne z
    rw [this]
    exact Ext.refl
  · rintro i m Hc ⟨rfl, hi, Sc, ρc, acc, vs, xc, sc, hat, racc, go⟩
    have mo : Mut (Hc Dn) := by rw [hat]; trivial
    have kc : Keep G H1 ρ1 B Hc ρc (Dn :: B) := (xc.keeps s1).trans (keep_reban mo)
    have kk0 : ∀ a o, H1 a = some o → a ∉ ρ1 → Hc a = some o := fun a o e n => by
      have z := xc.keep a o e n
      have ne : a ≠ Dn := ne_of_none e hD
      rwa [era_ne ne] at z
    have kk : ∀ a o, H1 a = some o → a ∉ ρ1 → Hc a = some o := kk0
    by_cases hlt : i < ds.length
    · refine .inr ⟨iok.go Hc ρc _ kk kc i hlt, Pv (i + 1), fun H' pv => ⟨ds.length - (i + 1), by omega, rfl, hlt, pv⟩, fun x H3 y => ?_⟩
      obtain ⟨x3, s3, r3⟩ := iok.yld Hc ρc _ Sc kk kc sc i ds[i] (List.getElem?_eq_getElem hlt) x H3 y
      rw [List.drop_eq_getElem_cons hlt] at go
      rw [lcGo] at go
      cases hfd : f ds[i] Sc with
      | none => rw [hfd] at go; cases go
      | some fr =>
        rw [hfd] at go
        rw [← hf] at hfd
        obtain ⟨env', ⟨b, S4⟩, a1, a2, a3⟩ := bind2 hfd
        have erc : ER G Hc ρc (Dn :: B) B0 (wipe σ ow) (wipeS env ow) := (er1.keep kc (fun a u hb h => kk0 a u h (s1.bt a hb).2) fun a h => List.mem_cons_of_mem _ h).wipe ow
        refine ⟨wipeS env ow, Sc, ρc, Dn :: B, B0, ds[i], env', s3, erc.ext sc x3, r3, a1, fun σ5 H5 x5 s5 er5 o5 => ⟨wipe_off o5 hsl, env', Sc, ρc, Dn :: B, B0, b, S4, s5, er5, a2, fun H6 ρ6 x6 s6 => ?_⟩⟩
        have x36 := (x3.trans x5).trans x6
        cases b with
        | false =>
          refine iteF ?_
          cases a3
          have at6 : H6 Dn = some (.lst vs) := x36.keep _ _ hat (sc.bt Dn List.mem_cons_self).2
          exact ⟨S4, ρ6, acc, vs, xc.trans (x36.era (by rw [hat]; simp) (sc.bt Dn List.mem_cons_self).2), s6, at6, racc.ext sc x36, go⟩
        | true =>
          refine iteT ⟨env', S4, ρ6, Dn :: B, B0, ?_⟩
          obtain ⟨⟨dv, S7⟩, a4, a5⟩ := Option.map_eq_some_iff.mp (show (evE C ex env' S4).map _ = _ from a3)
          cases a5
          refine ⟨dv, S7, s6, er5.ext s5 x6, a4, fun yv H8 ρ8 x8 s8 r8 => ?_⟩
          have x38 := x36.trans x8
          have at8 : H8 Dn = some (.lst vs) := x38.keep _ _ hat (sc.bt Dn List.mem_cons_self).2
          have mo8 : Mut (H8 Dn) := by rw [at8]; trivial
          have go : (if acc.length < sizeLine then lcGo f (ds.drop (i + 1)) (acc ++ [dv]) S7 else none) = some (out, S2) := go
          split at go
          · rename_i hz
            refine ⟨vs, at8, by rw [racc.length]; exact hz, S7, ρ8, acc ++ [dv], vs ++ [yv], ?_, s8.own List.mem_cons_self mo8, upd_same, ?_, go⟩
            · rw [era_upd]
              exact xc.trans (x38.era (by rw [hat]; simp) (sc.bt Dn List.mem_cons_self).2)
            · exact VRs.mono (keep_own List.mem_cons_self mo8) _ _ ((racc.ext sc x38).append (.cons r8 .nil))
          · cases go
    · have e : i = ds.length := by omega
      subst e
      rw [List.drop_length] at go
      rw [lcGo] at go
      cases go
      refine .inl ⟨iok.stop Hc ρc _ kk kc, ?_⟩
      have f := q (era Hc Dn) ρc (x1.trans xc) (sc.unban nB mo)
      have fin := f.new Dn _ era_same (.lst (VRs.mono (keep_unban mo) _ _ racc))
      rw [upd_era hat] at fin
      exact fin
theorem lc_reads (hsl : ∀ i ∈ t.sl, i ∈ own.map (·.2)) {σ : St} {H : Hp} {Q : VK} (w : tF G C (.lc (own.map (·.2)) t it c ex) σ H Q) : tLc (tI G C it) (tG G t) (tC G C c) (tE G C ex) (own.map (·.2)) σ H Q := by
  obtain ⟨env, S, ρ, B, B0, d, S', s, er, ev, q⟩ := w
  rw [evE] at ev
  obtain ⟨⟨ds, S1⟩, e1, e2⟩ := Option.bind_eq_some_iff.mp ev
  obtain ⟨⟨out, S2⟩, e3, e4⟩ := Option.map_eq_some_iff.mp e2
  cases e4
  exact lc_gen hsl s er (fun R h => ⟨env, S, ρ, B, B0, ds, S1, s, er, e1, fun J H' ρ' x s' iok => h J H' ρ' x s' iok.ow⟩) e3 q
/-! ### over a local list that is owned -/
def tIk (G : Cr) (i : Nat) : TI := fun σ H R => ∃ env S ρ B B0 ds, SR G H ρ B S ∧ ER G H ρ B B0 σ env ∧ peekS env i = some (.lst ds) ∧ ∀ J, IterOw G J H ρ B ds → R J H
theorem iterk_lst {H : Hp} {ρ B : List Addr} {ad : Addr} {ds : List D} {vs : List V} {K : PySem.W.Frag} (h : H ad = some (.lst vs)) (hn : ad ∉ ρ) (r : VRs G H ρ B ds vs) : IterOw G (Itl K ad) H ρ B ds := by
  have st : ∀ H2 : Hp, (∀ a o, H a = some o → a ∉ ρ → H2 a = some o) → SqL K H2 ad vs := fun H2 k => SqL.of (k ad _ h hn)
  refine ⟨fun H2 ρ2 B2 k kp i hi => ?_, fun H2 ρ2 B2 S2 k kp s2 i d e x H3 y => ?_, fun H2 ρ2 B2 k kp => ⟨vs, st H2 k, by rw [r.length]; exact Nat.le_refl _⟩⟩
  · obtain ⟨v, e, _⟩ := r.get (List.getElem?_eq_getElem hi)
    exact ⟨vs, v, st H2 k, e⟩
  · obtain ⟨e3, y⟩ := y
    subst e3
    obtain ⟨v, e1, r1⟩ := r.get e
    have e2 := y vs (st _ k)
    rw [e1] at e2
    cases e2
    exact ⟨Ext.refl, s2, VR.mono kp _ _ r1⟩
theorem pi_own {i : Nat} {x : Str} {pn : Pos} (hN : X.N[i]? = some x) (hv : Vis X.env.scope x) (hd : (x == ("__debug__" : Str)) = false) (hcd : (x == ("__classdict__" : Str)) = false) : PI X tg (.Name x pn) (tIk G i) := by
  refine impI (pi_list (pe_var hN hv hd hcd)) fun σ H R ⟨env, S, ρ, B, B0, ds, s, er, ev, q⟩ => ?_
  have go : ∀ (a : Addr) (vs : List V), σ[i]? = some (some (.ref a)) → H a = some (.lst vs) → a ∉ ρ → VRs G H ρ B ds vs → ∃ v, σ[i]? = some (some v) ∧ ∃ a, v = .ref a ∧ (∃ xs, SqL X.K H a xs) ∧ R (Itl X.K a) H := fun a vs h1 h2 h3 h4 => ⟨_, h1, a, rfl, ⟨vs, SqL.of h2⟩, q _ (iterk_lst h2 h3 h4)⟩
  unfold peekS at ev
  split at ev
  · rename_i d e
    cases ev
    have t := er.sl i _ e
    cases t with
    | fz h r =>
      cases r with
      | lst hq rr => exact go _ _ h hq.1 hq.2.1 rr
  · rename_i xs e
    cases ev
    have t := er.sl i _ e
    cases t with
    | ol h hb hn hh r => exact go _ _ h hh (s.bt _ hb).2 r
  · cases ev
  · cases ev
theorem lcp_reads {i : Nat} (hsl : ∀ j ∈ t.sl, j ∈ own.map (·.2)) {σ : St} {H : Hp} {Q : VK} (w : tF G C (.lcp (own.map (·.2)) t i c ex) σ H Q) : tLc (tIk G i) (tG G t) (tC G C c) (tE G C ex) (own.map (·.2)) σ H Q := by
  obtain ⟨env, S, ρ, B, B0, d, S', s, er, ev, q⟩ := w
  rw [evE] at ev
  split at ev
  · rename_i xs e1
    obtain ⟨⟨out, S2⟩, e3, e4⟩ := Option.map_eq_some_iff.mp ev
    cases e4
    exact lc_gen hsl s er (fun R h => ⟨env, S, ρ, B, B0, xs, s, er, e1, fun J iok => h J H ρ Ext.refl s iok⟩) e3 q
  · cases ev
end
end Wf
set_option Elab.async false
set_option linter.all false
namespace Wf
open PySem L2
variable {G : Cr} {C : Orc}

/-! ### defs: as FnOk, and nothing is being shown by repr when they are called -/
structure FnG (P : Program) (w : World) (K : PySem.W.Frag) (mg : Str → Option Value) (base : Heap) (k : Nat) (f : Addr) (fd : FuncData) (ps : List Str) (sp : Sp) : Prop where
  len : ∀ vs H Q E, sp vs H Q E → vs.length = ps.length
  run : ∀ (A : Around) (outer : List PySem.Env) (s : Shared) (H : Hp) (args : Args) (us : List Value) (vs : List V) (Q : VK) (E : XK), Room k A → A.guards = some [] → Env0 P w K mg base A outer s H →
    BindsTo s fd args (ps.zip us) → Vals vs us → sp vs H Q E → codeAny (model P w) A (.call (.ref f) args) (CR CX0 outer P w H s Q E) s
/-- what a def does, by the evaluator -/
def spOf (G : Cr) (g : List D → Sto → Option (D × Sto)) : Sp := fun vs H Q _ => ∃ ρ B S ds d S', SR G H ρ B S ∧ VRs G H ρ B ds vs ∧ g ds S = some (d, S') ∧ ∀ v H' ρ', Ext H ρ H' ρ' → SR G H' ρ' B S' → VR G H' ρ' B d v → Q v H'
/-- how the values of a call come to the parameters -/
inductive PermR (G : Cr) (us : List Value) : List Ag → List Value → Prop
  | nil : PermR G us [] []
  | vi {k : Nat} {u : Value} {r : List Ag} {zs : List Value} : us[k]? = some u → PermR G us r zs → PermR G us (.vi k :: r) (u :: zs)
  | dv {d : D} {v : V} {u : Value} {r : List Ag} {zs : List Value} : RelV v u → (∀ H ρ B, VR G H ρ B d v) → PermR G us r zs → PermR G us (.dv d :: r) (u :: zs)
theorem PermR.vals {us : List Value} {vs : List V} {ds : List D} {H : Hp} {ρ B : List Addr} (rv : Vals vs us) (rd : VRs G H ρ B ds vs) : ∀ {perm : List Ag} {zs : List Value} {es : List D}, PermR G us perm zs → permA ds perm = some es → ∃ ws, Vals ws zs ∧ VRs G H ρ B es ws
  | _, _, _, .nil, e => by rw [permA] at e; cases e; exact ⟨[], .nil, .nil⟩
  | _, _, _, .vi hk r, e => by
    rw [permA] at e
    split at e
    · rename_i d ds' e1 e2
      cases e
      obtain ⟨v, h1, h2⟩ := rd.get e1
      obtain ⟨u, h3, h4⟩ := rv.get h1
      rw [hk] at h3
      cases h3
      obtain ⟨ws, a, b⟩ := PermR.vals rv rd r e2
      exact ⟨v :: ws, .cons h4 a, .cons h2 b⟩
    · cases e
  | _, _, _, .dv hr hv r, e => by
    rw [permA] at e
    obtain ⟨ds', e1, e2⟩ := Option.map_eq_some_iff.mp e
    cases e2
    obtain ⟨ws, a, b⟩ := PermR.vals rv rd r e1
    exact ⟨_ :: ws, .cons hr a, .cons (hv _ _ _) b⟩
def CB (G : Cr) (fd : FuncData) (ps : List Str) (np : Nat) (kn : List Str) (perm : List Ag) : Prop :=
  ∀ (s : Shared) (us ws : List Value), G.K.In s.heap → us.length = np → ws.length = kn.length → ∃ zs, BindsTo s fd ⟨us, kn.zip ws⟩ (ps.zip zs) ∧ PermR G (us ++ ws) perm zs ∧ zs.length = ps.length
section
variable {X : Cx} {pos p : Pos} {x : Str} {fa : Addr} {fd : FuncData} {ps : List Str} {n : Nat} {f : Nat} {args : List Expr} {kws : List Keyword} {es ks : Es} {perm : List Ag} {kn : List Str}
/-- the callee, with values at hand -/
theorem run_call (hK : X.K = G.K) (F : FnG X.prog X.w X.K X.mg X.base n fa fd ps (spOf G (C.call f))) (hr : Room n X.A) (hg : X.A.guards = some []) (hb : CB G fd ps args.length kn perm) {pins : List (Addr × Obj)} {s : Shared} {σ : St} {H : Hp} {ρ B : List Addr} {S S' : Sto} {us ws : List Value} {vs zs : List V}
    {d1 d2 ds : List D} {d : D} {Q : VK} (I : Inv X pins σ H s) (sr : SR G H ρ B S) (rv : Vals vs us) (rz : Vals zs ws) (r1 : VRs G H ρ B d1 vs) (r2 : VRs G H ρ B d2 zs) (l1 : us.length = args.length) (l2 : ws.length = kn.length) (e1 : permA (d1 ++ d2) perm = some ds) (e2 : C.call f ds S = some (d, S'))
    (q : ∀ v H' ρ', Ext H ρ H' ρ' → SR G H' ρ' B S' → VR G H' ρ' B d v → Q v H') : wpAny (model X.prog X.w) X.A (call (.ref fa) us (kn.zip ws)) (EP X pins σ Q) X.xe s := by
  obtain ⟨us', bt, pr, hl⟩ := hb s us ws (by rw [← hK]; exact I.kIn) l1 l2
  obtain ⟨vs', rv', rd'⟩ := PermR.vals (rv.append rz) (r1.append r2) pr e1
  refine wpAny_call (codeAny_mono (F.run X.A X.stack s H ⟨us, kn.zip ws⟩ us' vs' Q (fun _ _ _ => False) hr hg I.env0 bt rv' ⟨ρ, B, S, ds, d, S', sr, rd', e2, q⟩) fun r s' hq => ?_)
  cases r with
  | error e => exact False.elim hq
  | ok fl =>
    cases fl with
    | ret u => exact I.after hq
    | next => exact False.elim hq
    | brk => exact False.elim hq
    | cont => exact False.elim hq
def notStar : Expr → Bool
  | .Starred _ _ => false
  | _ => true
theorem star_cons {e : Expr} {es : List Expr} {env : PySem.Env} (h : notStar e = true) : starEach (e :: es) env = (false, eval e env) :: starEach es env := by
  cases e <;> first | rfl | cases h
theorem star_any {env : PySem.Env} : ∀ {es : List Expr}, es.all notStar = true → (backTo pos (starEach es env)).any (·.1) = false
  | [], _ => rfl
  | e :: es, h => by
    rw [List.all_cons, Bool.and_eq_true] at h
    rw [star_cons h.1]
    exact star_any (es := es) h.2
theorem kw_all {env : PySem.Env} : ∀ {kws : List Keyword} {kn : List Str}, kws.map Keyword.arg = kn.map some → (backToKw pos (keywordEach kws env)).all (·.1.isSome) = true ∧ (backToKw pos (keywordEach kws env)).filterMap (·.1) = kn ∧ (backToKw pos (keywordEach kws env)).any (·.1.isNone) = false
  | [], [], _ => ⟨rfl, rfl, rfl⟩
  | [], _ :: _, h => by cases h
  | _ :: _, [], h => by cases h
  | ⟨nm, v, kp⟩ :: kws, k :: kn, h => by
    rw [List.map_cons, List.map_cons, List.cons.injEq] at h
    obtain ⟨h1, h2⟩ := h
    have h1 : nm = some k := h1
    subst h1
    obtain ⟨a, b, c⟩ := kw_all (env := env) h2
    refine ⟨a, ?_, c⟩
    show k :: (backToKw pos (keywordEach kws env)).filterMap (·.1) = k :: kn
    rw [b]
theorem evEs_split {env : Env} {S S' : Sto} {ds : List D} (h : evE C (.call f es ks perm) env S = some (d, S')) : ∃ d1 S1 d2 S2 ds, evEs C es env S = some (d1, S1) ∧ evEs C ks env S1 = some (d2, S2) ∧ permA (d1 ++ d2) perm = some ds ∧ C.call f ds S2 = some (d, S') := by
  rw [evE] at h
  obtain ⟨⟨d1, S1⟩, ⟨d2, S2⟩, e1, e2, e3⟩ := bind2 h
  obtain ⟨ds, e4, e5⟩ := Option.bind_eq_some_iff.mp e3
  exact ⟨d1, S1, d2, S2, ds, e1, e2, e4, e5⟩
def Es.len : Es → Nat
  | .nil => 0
  | .cons _ es => es.len + 1
theorem evEs_len {env : Env} : ∀ {es : Es} {S S' : Sto} {ds : List D}, evEs C es env S = some (ds, S') → ds.length = es.len
  | .nil, _, _, _, h => by rw [evEs] at h; cases h; rfl
  | .cons e es, _, _, _, h => by
    rw [evEs] at h
    obtain ⟨⟨d, S1⟩, e1, e2⟩ := Option.bind_eq_some_iff.mp h
    obtain ⟨⟨r, S2⟩, e3, e4⟩ := Option.map_eq_some_iff.mp e2
    cases e4
    exact congrArg Nat.succ (evEs_len e3)
theorem sim_call (hK : X.K = G.K) (F : FnG X.prog X.w X.K X.mg X.base n fa fd ps (spOf G (C.call f))) (hr : Room n X.A) (hg : X.A.guards = some []) (hb : CB G fd ps args.length kn perm) (gl : Gl X x) (hm : X.mg x = some (.ref fa)) (hk : PySem.W.keepIn X.K (.ref fa) = true)
    (ha : PA X args (tEs G C es)) (hkw : PK X kws (tEs G C ks)) (hst : args.all notStar = true) (hkn : kws.map Keyword.arg = kn.map some) (hdb : (x == ("__debug__" : Str)) = false) (la : args.length = es.len) (lk : kn.length = ks.len) :
    PE X (.Call (.Name x p) args kws pos) (tE G C (.call f es ks perm)) := by
  refine ⟨fun pins s0 σ H Q I w => ?_⟩
  obtain ⟨env, S, ρ, B, B0, d, S', s, er, ev, q⟩ := w
  obtain ⟨d1, S1, d2, S2, ds, e1, e2, e3, e4⟩ := evEs_split (ds := []) ev
  obtain ⟨k1, k2, k3⟩ := kw_all (pos := pos) (env := X.env) hkn
  refine wpAny_Call_Name_kw (ld_glob I gl hm ?_ hdb)
  have kv : ∀ {s1 : Shared} {H1 : Hp} {ρ1 : List Addr} {us : List Value} {vs : List V}, Inv X pins σ H1 s1 → Ext H ρ H1 ρ1 → SR G H1 ρ1 B S1 → Vals vs us → VRs G H1 ρ1 B d1 vs → us.length = args.length →
      wpAny (model X.prog X.w) X.A (evalAll ((backToKw pos (keywordEach kws X.env)).map (·.2))) (fun ws s2 => X.K.In s2.heap ∧ wpAny (model X.prog X.w) X.A (call (.ref fa) us (kn.zip ws)) (EP X pins σ Q) X.xe s2) X.xe s1 := by
    intro s1 H1 ρ1 us vs I1 x1 sr1 rv1 r1 l1
    refine thn (hkw.run pos pins s1 σ H1 (fun zs H2 => ∃ ρ2, Ext H1 ρ1 H2 ρ2 ∧ SR G H2 ρ2 B S2 ∧ VRs G H2 ρ2 B d2 zs ∧ zs.length = kn.length) I1 ⟨env, S1, ρ1, B, B0, d2, S2, sr1, er.ext s x1, e2, fun zs H2 ρ2 x2 s2 r2 => ⟨ρ2, x2, s2, r2, ?_⟩⟩) fun ws s2 ⟨zs, H2, I2, rz, ρ2, x2, sr2, r2, l2⟩ => ⟨I2.kIn, ?_⟩
    · rw [r2.length, evEs_len e2, lk]
    · exact run_call hK F hr hg hb I2 sr2 rv1 rz (r1.ext sr1 x2) r2 l1 (rz.length.symm.trans l2) e3 e4 fun v H' ρ' x3 s3 r3 => q _ _ _ ((x1.trans x2).trans x3) s3 r3
  have av : wpAny (model X.prog X.w) X.A (spliced (backTo pos (starEach args X.env))) (fun us s1 => ∃ vs H1 ρ1, Inv X pins σ H1 s1 ∧ Ext H ρ H1 ρ1 ∧ SR G H1 ρ1 B S1 ∧ Vals vs us ∧ VRs G H1 ρ1 B d1 vs ∧ us.length = args.length) X.xe s0 := by
    refine thn (ha.run pos pins s0 σ H (fun vs H1 => ∃ ρ1, Ext H ρ H1 ρ1 ∧ SR G H1 ρ1 B S1 ∧ VRs G H1 ρ1 B d1 vs) I ⟨env, S, ρ, B, B0, d1, S1, s, er, e1, fun vs H1 ρ1 x1 s1 r1 => ⟨ρ1, x1, s1, r1⟩⟩) fun us s1 ⟨vs, H1, I1, rv, ρ1, x1, sr1, r1⟩ => ⟨vs, H1, ρ1, I1, x1, sr1, rv, r1, ?_⟩
    rw [← rv.length, r1.length, evEs_len e1, la]
  cases args with
  | nil =>
    have e1' : d1 = [] ∧ S1 = S := by
      cases es with
      | nil => rw [evEs] at e1; cases e1; exact ⟨rfl, rfl⟩
      | cons _ _ => cases la
    obtain ⟨h1, h2⟩ := e1'
    subst h1
    subst h2
    cases kws with
    | nil =>
      have hn : kn = [] := by cases kn with | nil => rfl | cons _ _ => cases hkn
      subst hn
      have e2' : d2 = [] ∧ S2 = S1 := by
        cases ks with
        | nil => rw [evEs] at e2; cases e2; exact ⟨rfl, rfl⟩
        | cons _ _ => cases lk
      obtain ⟨h1, h2⟩ := e2'
      subst h1
      subst h2
      exact PySem.W.callWith_K0 I.kIn hk (run_call hK F hr hg hb (us := []) (ws := []) (vs := []) (zs := []) I s .nil .nil .nil .nil rfl rfl e3 e4 q)
    | cons kw kws =>
      refine PySem.W.callWith_KW0 (h₀ := X.base) I.ok.mod.kin hk k1 ?_ (by rw [k3]; rfl)
      rw [k2]
      exact kv (us := []) (vs := []) I Ext.refl s .nil .nil rfl
  | cons e es' =>
    rw [List.all_cons, Bool.and_eq_true] at hst
    cases kws with
    | nil =>
      have hn : kn = [] := by cases kn with | nil => rfl | cons _ _ => cases hkn
      subst hn
      have e2' : d2 = [] ∧ S2 = S1 := by
        cases ks with
        | nil => rw [evEs] at e2; cases e2; exact ⟨rfl, rfl⟩
        | cons _ _ => cases lk
      obtain ⟨h1, h2⟩ := e2'
      subst h1
      subst h2
      refine PySem.W.callWith_K (h₀ := X.base) I.ok.mod.kin hk (thn av fun us s1 ⟨vs, H1, ρ1, I1, x1, sr1, rv, r1, l1⟩ => ⟨I1.kIn, ?_⟩) (star_cons hst.1) (star_any hst.2)
      exact run_call hK F hr hg hb (ws := []) (zs := []) I1 sr1 rv .nil r1 .nil l1 rfl e3 e4 fun v H' ρ' x3 s3 r3 => q _ _ _ (x1.trans x3) s3 r3
    | cons kw kws =>
      refine PySem.W.callWith_KW (h₀ := X.base) I.ok.mod.kin hk k1 (thn av fun us s1 ⟨vs, H1, ρ1, I1, x1, sr1, rv, r1, l1⟩ => ?_) (by rw [k3, star_cons hst.1]; show ((false || (backTo pos (starEach es' X.env)).any (·.1)) || false) = false; rw [star_any hst.2]; rfl) (star_cons hst.1)
      rw [k2]
      exact kv I1 x1 sr1 rv r1 l1

/-! ### keywords' values -/
theorem simK_nil : PK X [] (tEs G C .nil) := ⟨fun pos pins s σ H Q I ⟨env, S, ρ, B, B0, d, S', sr, er, ev, q⟩ => pk_nil.run pos pins s σ H Q I (by rw [evEs] at ev; cases ev; exact q _ _ _ Ext.refl sr .nil)⟩
theorem simK_cons {e : Expr} {ex : E} {exs : Es} {nm : Option Str} {kp : Pos} (h : PE X e (tE G C ex)) (hr : PK X kws (tEs G C exs)) : PK X (⟨nm, e, kp⟩ :: kws) (tEs G C (.cons ex exs)) :=
  ⟨fun pos pins s0 σ H Q I ⟨env, S, ρ, B, B0, d, S', s, er, ev, q⟩ => (pk_cons h hr).run pos pins s0 σ H Q I (by
    rw [evEs] at ev
    obtain ⟨⟨d1, S1⟩, e1, e2⟩ := Option.bind_eq_some_iff.mp ev
    obtain ⟨⟨ds, S2⟩, e3, e4⟩ := Option.map_eq_some_iff.mp e2
    cases e4
    exact ⟨env, S, ρ, B, B0, d1, S1, s, er, e1, fun x H1 ρ1 x1 s1 r1 => ⟨env, S1, ρ1, B, B0, ds, S2, s1, er.ext s x1, e3, fun vs H2 ρ2 x2 s2 r2 => q _ _ _ (x1.trans x2) s2 (.cons (r1.ext s1 x2) r2)⟩⟩)⟩
end
end Wf
set_option Elab.async false
set_option linter.all false
namespace Wf
open PySem L2
variable {G : Cr} {C : Orc}

/-- a place that was passed: what stood there apart from the store and the owned things stands -/
structure Mrk where
  H : Hp
  ρ : List Addr
  B : List Addr
structure MkOk (G : Cr) (m : Mrk) (H : Hp) (ρ B : List Addr) : Prop where
  kept : ∀ a o, m.H a = some o → a ∉ m.ρ → a ∉ m.B → H a = some o
  keep : Keep G m.H m.ρ m.B H ρ B
  th : ∀ a, m.H a ≠ none → H a ≠ none
  nr : ∀ a, m.H a ≠ none → a ∉ m.ρ → a ∉ ρ
  ow : ∀ a ∈ B, a ∈ m.B ∨ m.H a = none
theorem keep_weak {H : Hp} {ρ B B0 : List Addr} (h : ∀ a ∈ B0, a ∈ B) : Keep G H ρ B H ρ B0 :=
  ⟨fun _ _ q => q, fun a vs q => ⟨q.1, q.2.1, fun z => q.2.2 (h a z)⟩, fun a vs q => ⟨q.1, q.2.1, fun z => q.2.2 (h a z)⟩, fun _ _ q => q, fun _ _ q => q⟩
section
variable {m : Mrk} {H H' : Hp} {ρ ρ' B B' : List Addr} {S : Sto} {p : Addr} {o : HO}
theorem MkOk.start : MkOk G ⟨H, ρ, B⟩ H ρ B := ⟨fun _ _ e _ _ => e, keep_weak fun _ h => h, fun _ h => h, fun _ _ h => h, fun _ h => .inl h⟩
theorem MkOk.ext (k : MkOk G m H ρ B) (s : SR G H ρ B S) (x : Ext H ρ H' ρ') : MkOk G m H' ρ' B :=
  ⟨fun a o e n1 n2 => x.keep a o (k.kept a o e n1 n2) (k.nr a (by rw [e]; simp) n1), k.keep.trans (x.keeps s), fun a h => x.there a (k.th a h), fun a h n => x.old (k.th a h) (k.nr a h n), k.ow⟩
theorem MkOk.write (k : MkOk G m H ρ B) (hb : p ∈ B) (mo : Mut (H p)) : MkOk G m (upd H p o) ρ B := by
  refine ⟨fun a u e n1 n2 => ?_, k.keep.trans (keep_own hb mo), fun a h => ?_, k.nr, k.ow⟩
  · have ne : a ≠ p := fun z => by
      subst z
      rcases k.ow a hb with q | q
      · exact n2 q
      · rw [q] at e; cases e
    rw [upd_ne ne]
    exact k.kept a u e n1 n2
  · by_cases z : a = p
    · rw [z, upd_same]; simp
    · rw [upd_ne z]; exact k.th a h
theorem MkOk.ban (k : MkOk G m H ρ B) (s : SR G H ρ B S) (h : H p = none) : MkOk G m (upd H p o) ρ (p :: B) := by
  refine ⟨fun a u e n1 n2 => ?_, k.keep.trans (keep_ban s h), fun a q => (Ext.laid (ρ := ρ) (o := o) h).there a (k.th a q), k.nr, fun a ha => ?_⟩
  · have z := k.kept a u e n1 n2
    rw [upd_ne (ne_of_none z h)]
    exact z
  · rcases List.mem_cons.mp ha with z | z
    · exact .inr (Classical.byContradiction fun q => k.th a q (by rw [z]; exact h))
    · exact k.ow a z
theorem MkOk.weak (k : MkOk G m H ρ B) (h : ∀ a ∈ B', a ∈ B) : MkOk G m H ρ B' := ⟨k.kept, k.keep.trans (keep_weak h), k.th, k.nr, fun a ha => k.ow a (h a ha)⟩
end
/-- between two statements: H0, ρ0, B0 at the def's entry, ms the places passed -/
structure RS (G : Cr) (H0 : Hp) (ρ0 B0 : List Addr) (ms : List Mrk) (σ : St) (H : Hp) (env : Env) (S : Sto) (ρ B : List Addr) : Prop where
  sr : SR G H ρ B S
  er : ER G H ρ B B0 σ env
  sub : ∀ a ∈ B0, a ∈ B
  new : ∀ a ∈ B, a ∉ B0 → H0 a = none
  ext : Ext H0 ρ0 H ρ
  mks : ∀ m ∈ ms, MkOk G m H ρ B
section
variable {H0 H H' : Hp} {ρ0 ρ ρ' B0 B : List Addr} {ms : List Mrk} {σ σ' : St} {env env' : Env} {S S' : Sto} {d : D} {v : V}
theorem RS.step (r : RS G H0 ρ0 B0 ms σ H env S ρ B) (x : Ext H ρ H' ρ') (s : SR G H' ρ' B S') : RS G H0 ρ0 B0 ms σ H' env S' ρ' B := ⟨s, r.er.ext r.sr x, r.sub, r.new, r.ext.trans x, fun m h => (r.mks m h).ext r.sr x⟩
theorem SR.weak (s : SR G H ρ B S) (h : ∀ a ∈ B0, a ∈ B) : SR G H ρ B0 S := by
  exact ⟨s.len, s.nd, fun i o a e1 e2 => (s.ob i o a e1 e2).keep (keep_weak h) rfl, fun a ha => s.bt a (h a ha)⟩
theorem RS.ret (r : RS G H0 ρ0 B0 ms σ H env S ρ B) (x : Ext H ρ H' ρ') (s : SR G H' ρ' B S') (q : VR G H' ρ' B d v) : Ext H0 ρ0 H' ρ' ∧ SR G H' ρ' B0 S' ∧ VR G H' ρ' B0 d v :=
  ⟨r.ext.trans x, s.weak r.sub, VR.mono (keep_weak r.sub) _ _ q⟩
end
/-- what is wanted behind -/
def Wants (G : Cr) (H0 : Hp) (ρ0 B0 : List Addr) (ms : List Mrk) (D : Ends) : Fl → Prop
  | .nx env S => ∀ σ H ρ B, RS G H0 ρ0 B0 ms σ H env S ρ B → D.nx σ H
  | .rt d S => ∀ v H ρ, Ext H0 ρ0 H ρ → SR G H ρ B0 S → VR G H ρ B0 d v → D.rt v H
def tS (G : Cr) (C : Orc) (x : Sx) : TS := fun D σ H => ∃ H0 ρ0 B0 ms env S ρ B fl, RS G H0 ρ0 B0 ms σ H env S ρ B ∧ evS C x env S = some fl ∧ Wants G H0 ρ0 B0 ms D fl
def tSs (G : Cr) (C : Orc) (x : Ss) : TS := fun D σ H => ∃ H0 ρ0 B0 ms env S ρ B fl, RS G H0 ρ0 B0 ms σ H env S ρ B ∧ evSs C x env S = some fl ∧ Wants G H0 ρ0 B0 ms D fl
theorem impS {X : Cx} {e : Stmt} {t u : TS} (h : PS X e t) (f : ∀ D σ H, u D σ H → t D σ H) : PS X e u := ⟨fun pins s σ H D I w => h.run pins s σ H D I (f D σ H w)⟩
theorem impSs {X : Cx} {e : List Stmt} {t u : TS} (h : PSs X e t) (f : ∀ D σ H, u D σ H → t D σ H) : PSs X e u := ⟨fun pins s σ H D I w => h.run pins s σ H D I (f D σ H w)⟩
section
variable {X : Cx} {e tg : Expr} {ex ec : E} {t : T} {pos : Pos} {st : Stmt} {sts : List Stmt} {sx : Sx} {ss : Ss}
theorem simS_nil : PSs X [] (tSs G C .nil) := impSs pss_nil fun De σ H ⟨H0, ρ0, B0, ms, env, S, ρ, B, fl, r, ev, q⟩ => by
  rw [evSs] at ev
  cases ev
  exact q _ _ _ _ r
theorem simS_cons (h1 : PS X st (tS G C sx)) (h2 : PSs X sts (tSs G C ss)) : PSs X (st :: sts) (tSs G C (.cons sx ss)) := impSs (pss_cons h1 h2) fun De σ H ⟨H0, ρ0, B0, ms, env, S, ρ, B, fl, r, ev, q⟩ => by
  rw [evSs] at ev
  cases he : evS C sx env S with
  | none => rw [he] at ev; cases ev
  | some f1 =>
    rw [he] at ev
    refine ⟨H0, ρ0, B0, ms, env, S, ρ, B, f1, r, he, ?_⟩
    cases f1 with
    | nx env1 S1 => exact fun σ1 H1 ρ1 B1 r1 => ⟨H0, ρ0, B0, ms, env1, S1, ρ1, B1, fl, r1, ev, q⟩
    | rt d1 S1 => cases ev; exact q
/-- a list or dict that was owned is not changed any more -/
theorem er_frz {H : Hp} {ρ B B0 : List Addr} {σ : St} {env : Env} {i : Nat} {a : Addr} {x : Sl} {d : D} (er : ER G H ρ B B0 σ env) (hx : env[i]? = some x) (ho : isOwn x = true) (hs : σ[i]? = some (some (.ref a))) (hv : VR G H ρ (B.filter (· ≠ a)) d (.ref a)) :
    ER G H ρ (B.filter (· ≠ a)) B0 σ (env.set i (.fz d)) := by
  have kw : Keep G H ρ B H ρ (B.filter (· ≠ a)) := keep_weak fun b hb => (List.mem_filter.mp hb).1
  have hi : i < env.length := (List.getElem?_eq_some_iff.mp hx).1
  have kept : ∀ {j : Nat} {y : Sl} {b : Addr}, j ≠ i → env[j]? = some y → isOwn y = true → σ[j]? = some (some (.ref b)) → b ∈ B → b ∈ B.filter (· ≠ a) := fun {j y b} hj ej oj sj hb => by
    refine List.mem_filter.mpr ⟨hb, decide_eq_true fun z => ?_⟩
    subst z
    exact hj (er.apart j i y x b ej hx oj ho sj hs)
  refine ⟨by rw [List.length_set]; exact er.len, fun j y e => ?_, fun j k y z b e1 e2 o1 o2 s1 s2 => ?_⟩
  · by_cases h : j = i
    · subst h
      rw [List.getElem?_set_self hi] at e
      cases e
      exact .fz hs hv
    · rw [List.getElem?_set_ne (Ne.symm h)] at e
      cases er.sl j y e with
      | un => exact .un
      | fz e1 r => exact .fz e1 (VR.mono kw _ _ r)
      | ol e1 hb hn hh r => exact .ol e1 (kept h e rfl e1 hb) hn hh (VRs.mono kw _ _ r)
      | od e1 hb hn hh r => exact .od e1 (kept h e rfl e1 hb) hn hh (VRk.mono kw _ _ r)
  · have ni : ∀ {j : Nat} {x : Sl}, (env.set i (.fz d))[j]? = some x → isOwn x = true → j ≠ i := fun {j x} e o h => by
      subst h
      rw [List.getElem?_set_self hi] at e
      cases e
      cases o
    have nj := ni e1 o1
    have nk := ni e2 o2
    rw [List.getElem?_set_ne (Ne.symm nj)] at e1
    rw [List.getElem?_set_ne (Ne.symm nk)] at e2
    exact er.apart j k y z b e1 e2 o1 o2 s1 s2
theorem simS_frz {i : Nat} (h : PSs X sts (tSs G C ss)) : PSs X sts (tSs G C (.cons (.frz i) ss)) := impSs h fun De σ H ⟨H0, ρ0, B0, ms, env, S, ρ, B, fl, r, ev, q⟩ => by
  rw [evSs] at ev
  rw [evS] at ev
  have go : ∀ {a : Addr} {x : Sl} {d : D}, env[i]? = some x → isOwn x = true → σ[i]? = some (some (.ref a)) → a ∉ B0 → VR G H ρ (B.filter (· ≠ a)) d (.ref a) → RS G H0 ρ0 B0 ms σ H (env.set i (.fz d)) S ρ (B.filter (· ≠ a)) := fun {a x d} hx ho hs hn hv => by
    have sub : ∀ b ∈ B0, b ∈ B.filter (· ≠ a) := fun b hb => List.mem_filter.mpr ⟨r.sub b hb, decide_eq_true fun z => hn (z ▸ hb)⟩
    exact ⟨r.sr.weak fun b hb => (List.mem_filter.mp hb).1, er_frz r.er hx ho hs hv, sub, fun b hb n => r.new b (List.mem_filter.mp hb).1 n, r.ext, fun m hm => (r.mks m hm).weak fun b hb => (List.mem_filter.mp hb).1⟩
  split at ev
  · rename_i env1 S1 he
    split at he
    · rename_i xs hx
      cases he
      cases r.er.sl i _ hx with
      | @ol a _ vs e1 hb hn hh rr =>
        refine ⟨H0, ρ0, B0, ms, _, _, _, _, fl, go hx rfl e1 hn (.lst ⟨hh, (r.sr.bt a hb).2, fun z => ?_⟩ (VRs.mono (keep_weak fun b hb => (List.mem_filter.mp hb).1) _ _ rr)), ev, q⟩
        have := (List.mem_filter.mp z).2
        simp at this
    · rename_i xs hx
      cases he
      cases r.er.sl i _ hx with
      | @od a _ vs e1 hb hn hh rr =>
        refine ⟨H0, ρ0, B0, ms, _, _, _, _, fl, go hx rfl e1 hn (.dct ⟨hh, (r.sr.bt a hb).2, fun z => ?_⟩ (VRk.mono (keep_weak fun b hb => (List.mem_filter.mp hb).1) _ _ rr)), ev, q⟩
        have := (List.mem_filter.mp z).2
        simp at this
    · cases he
  · rename_i hne
    exfalso
    split at ev
    · rename_i hx
      exact hne _ _ (by rw [hx])
    · rename_i hx
      exact hne _ _ (by rw [hx])
    · cases ev
/-- target = value, plainly -/
theorem sim_asg (he : PE X e (tE G C ex)) (hg : PG X tg (tG G t)) (hs : swapsWithSole [tg] e pos.line X.env = pure false) (hw : swappedStores [tg] e X.env = pure none) (h1 : (assignEach [tg] X.env).map (·.2) = [assign tg X.env]) : PS X (.Assign [tg] e pos) (tS G C (.asg t ex)) :=
  impS (ps_asg he hg hs hw h1) fun De σ H ⟨H0, ρ0, B0, ms, env, S, ρ, B, fl, r, ev, q⟩ => by
    rw [evS] at ev
    obtain ⟨⟨d, S1⟩, e1, e2⟩ := Option.bind_eq_some_iff.mp ev
    obtain ⟨env1, e3, e4⟩ := Option.map_eq_some_iff.mp e2
    cases e4
    exact ⟨env, S, ρ, B, B0, d, S1, r.sr, r.er, e1, fun v H1 ρ1 x1 s1 r1 => ⟨env, S1, ρ1, B, B0, d, env1, s1, r.er.ext r.sr x1, r1, e3, fun σ2 H2 x2 s2 er2 _ => q _ _ _ _ ⟨s2, er2, r.sub, r.new, (r.ext.trans x1).trans x2, fun m h => ((r.mks m h).ext r.sr x1).ext s1 x2⟩⟩⟩
theorem sim_ret (he : PE X e (tE G C ex)) : PS X (.Return (some e) pos) (tS G C (.ret ex)) :=
  impS (ps_ret he) fun De σ H ⟨H0, ρ0, B0, ms, env, S, ρ, B, fl, r, ev, q⟩ => by
    rw [evS] at ev
    obtain ⟨⟨d, S1⟩, e1, e2⟩ := Option.map_eq_some_iff.mp ev
    cases e2
    exact ⟨env, S, ρ, B, B0, d, S1, r.sr, r.er, e1, fun v H1 ρ1 x1 s1 r1 => let ⟨a, b, c⟩ := r.ret x1 s1 r1; q _ _ _ a b c⟩
theorem sim_ex (he : PE X e (tE G C ex)) (hs : swapsWith e none pos.line X.env = pure false) : PS X (.Expr e pos) (tS G C (.ex ex)) :=
  impS (ps_expr he hs) fun De σ H ⟨H0, ρ0, B0, ms, env, S, ρ, B, fl, r, ev, q⟩ => by
    rw [evS] at ev
    obtain ⟨⟨d, S1⟩, e1, e2⟩ := Option.map_eq_some_iff.mp ev
    cases e2
    exact ⟨env, S, ρ, B, B0, d, S1, r.sr, r.er, e1, fun v H1 ρ1 x1 s1 r1 => q _ _ _ _ (r.step x1 s1)⟩
theorem sim_iff {c : Expr} {a b : List Stmt} {sa sb : Ss} (hc : PT X c (tT G C ec)) (ha : PSs X a (tSs G C sa)) (hb : PSs X b (tSs G C sb)) : PS X (.If c a b pos) (tS G C (.iff ec sa sb)) :=
  impS (ps_if hc ha hb) fun De σ H ⟨H0, ρ0, B0, ms, env, S, ρ, B, fl, r, ev, q⟩ => by
    rw [evS] at ev
    obtain ⟨⟨d, S1⟩, k, e1, e2, e3⟩ := bind2 ev
    cases bl_of e2
    refine ⟨env, S, ρ, B, B0, k, S1, r.sr, r.er, e1, fun H1 ρ1 x1 s1 => ?_⟩
    cases k with
    | true => exact iteT ⟨H0, ρ0, B0, ms, env, S1, ρ1, B, fl, r.step x1 s1, e3, q⟩
    | false => exact iteF ⟨H0, ρ0, B0, ms, env, S1, ρ1, B, fl, r.step x1 s1, e3, q⟩
theorem sim_fr {iter : Expr} {body : List Stmt} {it : It} {sb : Ss} (hc : X.calm = true) (hxe : PassesOwn (model X.prog X.w) X.A X.env X.xe) (hi : PI X tg iter (tI G C it)) (hg : PG X tg (tG G t)) (hb : PSs X body (tSs G C sb)) (hs : ∀ x, foldedSetIterable iter X.env x = pure x) :
    PS X (.For tg iter body [] pos) (tS G C (.fr t it sb)) :=
  impS (ps_for hxe hc hi hg hb hs) fun De σ H ⟨H0, ρ0, B0, ms, env, S, ρ, B, fl, r, ev, q⟩ => by
    rw [evS] at ev
    obtain ⟨⟨ds, S1⟩, e1, e2⟩ := Option.bind_eq_some_iff.mp ev
    refine ⟨env, S, ρ, B, B0, ds, S1, r.sr, r.er, e1, fun J H1 ρ1 x1 s1 iok => ?_⟩
    have r1 := r.step x1 s1
    have e2 : frGo (fun (d : Wf.D) (env : Env) (S : Sto) => (asgT t d env).bind fun env' => evSs C sb env' S) ds env S1 = some fl := e2
    generalize hf : (fun (d : Wf.D) (env : Env) (S : Sto) => (asgT t d env).bind fun env' => evSs C sb env' S) = f at e2
    let M : Mrk := ⟨H1, ρ1, B⟩
    let Pv : Nat → L2.St → Hp → Prop := fun i σ H => ∃ env S ρ' B', RS G H0 ρ0 B0 (M :: ms) σ H env S ρ' B' ∧ frGo f (ds.drop i) env S = some fl
    refine ⟨fun i m σ H => m = ds.length - i ∧ i ≤ ds.length ∧ Pv i σ H, ⟨ds.length, rfl, Nat.zero_le _, env, S1, ρ1, B, ⟨r1.sr, r1.er, r1.sub, r1.new, r1.ext, fun m h => ?_⟩, e2⟩, ?_⟩
    · rcases List.mem_cons.mp h with z | z
      · rw [z]; exact MkOk.start
      · exact r1.mks m z
    rintro i m σc Hc ⟨rfl, hi, envc, Sc, ρc, Bc, rc, go⟩
    have mk := rc.mks M List.mem_cons_self
    by_cases hlt : i < ds.length
    · refine .inr ⟨iok.go Hc ρc _ mk.kept mk.keep i hlt, Pv (i + 1), fun σ' H' pv => ⟨ds.length - (i + 1), by omega, rfl, hlt, pv⟩, fun x H3 y => ?_⟩
      obtain ⟨x3, s3, r3⟩ := iok.yld Hc ρc _ Sc mk.kept mk.keep rc.sr i ds[i] (List.getElem?_eq_getElem hlt) x H3 y
      rw [List.drop_eq_getElem_cons hlt] at go
      rw [frGo] at go
      cases hfd : f ds[i] envc Sc with
      | none => rw [hfd] at go; cases go
      | some f1 =>
        rw [hfd] at go
        rw [← hf] at hfd
        obtain ⟨env', a1, a2⟩ := Option.bind_eq_some_iff.mp hfd
        refine ⟨envc, Sc, ρc, Bc, B0, ds[i], env', s3, rc.er.ext rc.sr x3, r3, a1, fun σ5 H5 x5 s5 er5 _ => ?_⟩
        have r5 : RS G H0 ρ0 B0 (M :: ms) σ5 H5 env' Sc ρc Bc := ⟨s5, er5, rc.sub, rc.new, (rc.ext.trans x3).trans x5, fun m h => ((rc.mks m h).ext rc.sr x3).ext s3 x5⟩
        refine ⟨H0, ρ0, B0, M :: ms, env', Sc, ρc, Bc, f1, r5, a2, ?_⟩
        cases f1 with
        | nx env6 S6 => exact fun σ6 H6 ρ6 B6 r6 => ⟨env6, S6, ρ6, B6, r6, go⟩
        | rt d6 S6 => cases go; exact q
    · have e : i = ds.length := by omega
      subst e
      rw [List.drop_length] at go
      rw [frGo] at go
      cases go
      exact .inl ⟨iok.stop Hc ρc _ mk.kept mk.keep, q _ _ _ _ ⟨rc.sr, rc.er, rc.sub, rc.new, rc.ext, fun m h => rc.mks m (List.mem_cons_of_mem _ h)⟩⟩
end
end Wf
set_option Elab.async false
set_option linter.all false
namespace Wf
open PySem L2
variable {G : Cr} {C : Orc}
section
variable {H0 H : Hp} {ρ0 ρ B0 B : List Addr} {ms : List Mrk} {σ : St} {env : Env} {S : Sto} {i : Nat} {p : Addr}
theorem ER.mine {o : HO} {x : Sl} (er : ER G H ρ B B0 σ env) (s : SR G H ρ B S) (h : H p = none) (hi : i < env.length) (hx : isOwn x = true) (hr : SlR G (upd H p o) ρ (p :: B) B0 (σ.set i (some (.ref p))) i x) : ER G (upd H p o) ρ (p :: B) B0 (σ.set i (some (.ref p))) (env.set i x) := by
  have b := er.ban (o := o) s h
  have hl := er.len
  have old : ∀ {j : Nat} {y : Sl} {a : Addr}, env[j]? = some y → isOwn y = true → σ[j]? = some (some (.ref a)) → a ≠ p := fun {j y a} e oy sj => by
    cases er.sl j y e with
    | un => cases oy
    | fz _ _ => cases oy
    | ol e1 hb _ hh _ => rw [e1] at sj; cases sj; exact ne_of_none hh h
    | od e1 hb _ hh _ => rw [e1] at sj; cases sj; exact ne_of_none hh h
  refine ⟨by rw [List.length_set, List.length_set]; exact hl, fun j y e => ?_, fun j k y z a e1 e2 o1 o2 s1 s2 => ?_⟩
  · by_cases hj : j = i
    · subst hj
      rw [List.getElem?_set_self hi] at e
      cases e
      exact hr
    · rw [List.getElem?_set_ne (Ne.symm hj)] at e
      cases b.sl j y e with
      | un => exact .un
      | fz e1 q => exact .fz (by rw [List.getElem?_set_ne (Ne.symm hj)]; exact e1) q
      | ol e1 hb hn hh q => exact .ol (by rw [List.getElem?_set_ne (Ne.symm hj)]; exact e1) hb hn hh q
      | od e1 hb hn hh q => exact .od (by rw [List.getElem?_set_ne (Ne.symm hj)]; exact e1) hb hn hh q
  · by_cases hj : j = i
    · by_cases hk : k = i
      · rw [hj, hk]
      · subst hj
        rw [List.getElem?_set_self (by rw [hl]; exact hi)] at s1
        rw [List.getElem?_set_ne (Ne.symm hk)] at e2 s2
        have s1' : (V.ref p) = .ref a := Option.some.inj (Option.some.inj s1)
        cases s1'
        exact absurd rfl (old e2 o2 s2)
    · by_cases hk : k = i
      · subst hk
        rw [List.getElem?_set_self (by rw [hl]; exact hi)] at s2
        rw [List.getElem?_set_ne (Ne.symm hj)] at e1 s1
        have s2' : (V.ref p) = .ref a := Option.some.inj (Option.some.inj s2)
        cases s2'
        exact absurd rfl (old e1 o1 s1)
      · rw [List.getElem?_set_ne (Ne.symm hj)] at e1 s1
        rw [List.getElem?_set_ne (Ne.symm hk)] at e2 s2
        exact er.apart j k y z a e1 e2 o1 o2 s1 s2
/-- a new thing that is owned by the slot -/
theorem RS.mine {o : HO} {x : Sl} (r : RS G H0 ρ0 B0 ms σ H env S ρ B) (h : H p = none) (hi : i < env.length) (hx : isOwn x = true) (hr : p ∉ B0 → SlR G (upd H p o) ρ (p :: B) B0 (σ.set i (some (.ref p))) i x) : RS G H0 ρ0 B0 ms (σ.set i (some (.ref p))) (upd H p o) (env.set i x) S ρ (p :: B) := by
  have pB : p ∉ B := fun z => (r.sr.bt p z).1 h
  have pB0 : p ∉ B0 := fun z => pB (r.sub p z)
  have h0 : H0 p = none := Classical.byContradiction fun q => r.ext.there p q h
  refine ⟨r.sr.ban h, r.er.mine r.sr h hi hx (hr pB0), fun a ha => List.mem_cons_of_mem _ (r.sub a ha), fun a ha n => ?_, r.ext.trans (Ext.laid h), fun m hm => (r.mks m hm).ban r.sr h⟩
  rcases List.mem_cons.mp ha with z | z
  · rw [z]; exact h0
  · exact r.new a z n
/-- an owned thing is changed -/
theorem RS.wrote {a : Addr} {o : HO} {x y : Sl} (r : RS G H0 ρ0 B0 ms σ H env S ρ B) (hx : env[i]? = some x) (hox : isOwn x = true) (hs : σ[i]? = some (some (.ref a))) (hb : a ∈ B) (hn : a ∉ B0) (mo : Mut (H a)) (hoy : isOwn y = true)
    (hr : Keep G H ρ B (upd H a o) ρ B → SlR G (upd H a o) ρ B B0 σ i y) : RS G H0 ρ0 B0 ms σ (upd H a o) (env.set i y) S ρ B := by
  have k : Keep G H ρ B (upd H a o) ρ B := keep_own hb mo
  have hi : i < env.length := (List.getElem?_eq_some_iff.mp hx).1
  have nr := (r.sr.bt a hb).2
  have h0 := r.new a hb hn
  refine ⟨r.sr.own hb mo, ⟨by rw [List.length_set]; exact r.er.len, fun j z e => ?_, fun j k z w b e1 e2 o1 o2 s1 s2 => ?_⟩, r.sub, r.new, ⟨fun b u e n => ?_, fun b e => ?_, r.ext.new⟩, fun m hm => (r.mks m hm).write hb mo⟩
  · by_cases hj : j = i
    · subst hj
      rw [List.getElem?_set_self hi] at e
      cases e
      exact hr k
    · rw [List.getElem?_set_ne (Ne.symm hj)] at e
      have ne : ∀ {b : Addr}, isOwn z = true → σ[j]? = some (some (.ref b)) → b ≠ a := fun {b} oz sj q => by
        subst q
        exact hj (r.er.apart j i z x b e hx oz hox sj hs)
      cases r.er.sl j z e with
      | un => exact .un
      | fz e1 q => exact .fz e1 (VR.mono k _ _ q)
      | ol e1 hb' hn' hh q => exact .ol e1 hb' hn' (by rw [upd_ne (ne rfl e1)]; exact hh) (VRs.mono k _ _ q)
      | od e1 hb' hn' hh q => exact .od e1 hb' hn' (by rw [upd_ne (ne rfl e1)]; exact hh) (VRk.mono k _ _ q)
  · have back : ∀ {j : Nat} {z : Sl}, (env.set i y)[j]? = some z → isOwn z = true → ∃ z', env[j]? = some z' ∧ isOwn z' = true := fun {j z} e oz => by
      by_cases hj : j = i
      · subst hj; exact ⟨x, hx, hox⟩
      · rw [List.getElem?_set_ne (Ne.symm hj)] at e; exact ⟨z, e, oz⟩
    obtain ⟨z1, q1, p1⟩ := back e1 o1
    obtain ⟨z2, q2, p2⟩ := back e2 o2
    exact r.er.apart j k z1 z2 b q1 q2 p1 p2 s1 s2
  · have ne : b ≠ a := fun z => by rw [z, h0] at e; cases e
    rw [upd_ne ne]
    exact r.ext.keep b u e n
  · by_cases z : b = a
    · rw [z, upd_same]; simp
    · rw [upd_ne z]; exact r.ext.there b e
end
section
variable {X : Cx} {e tg : Expr} {ex ec : E} {t : T} {pos : Pos} {st : Stmt} {i : Nat}
theorem asg_of (h : PS X st (tAsg (tE G C ex) (gName i))) : PS X st (tS G C (.asg (.nm i) ex)) :=
  impS h fun De σ H ⟨H0, ρ0, B0, ms, env, S, ρ, B, fl, r, ev, q⟩ => by
    rw [evS] at ev
    obtain ⟨⟨d, S1⟩, e1, e2⟩ := Option.bind_eq_some_iff.mp ev
    obtain ⟨env1, e3, e4⟩ := Option.map_eq_some_iff.mp e2
    cases e4
    rw [asgT] at e3
    cases e3
    exact ⟨env, S, ρ, B, B0, d, S1, r.sr, r.er, e1, fun v H1 ρ1 x1 s1 r1 => q _ _ _ _ ⟨s1, (r.er.ext r.sr x1).set r1, r.sub, r.new, r.ext.trans x1, fun m h => (r.mks m h).ext r.sr x1⟩⟩
theorem asgF {σ : St} {H : Hp} {De : Ends} : tAsg (tE G C ex) (gName i) De σ H → tAsg (tF G C ex) (gName i) De σ H := fun ⟨env, S, ρ, B, B0, d, S', s, er, ev, q⟩ =>
  ⟨env, S, ρ, B, B0, d, S', s, er, ev, fun H' ρ' x s' => Fin.of s' fun v H2 x2 s2 r => q v H2 ρ' (x.trans x2) s2 r⟩
theorem asg_ofF (h : PS X st (tAsg (tF G C ex) (gName i))) : PS X st (tS G C (.asg (.nm i) ex)) := asg_of (impS h fun _ _ _ w => asgF w)
theorem own_of (hlt : i < X.N.length) (h : PS X st (tAsg (tF G C ex) (gName i))) : PS X st (tS G C (.own i ex)) := by
  refine ⟨fun pins s0 σ H De I w => h.run pins s0 σ H De I ?_⟩
  obtain ⟨H0, ρ0, B0, ms, env, S, ρ, B, fl, r, ev, q⟩ := w
  rw [evS] at ev
  obtain ⟨⟨d, S1⟩, e1, e2⟩ := Option.bind_eq_some_iff.mp ev
  have hi : i < env.length := by rw [← r.er.len, I.len]; exact hlt
  refine ⟨env, S, ρ, B, B0, d, S1, r.sr, r.er, e1, fun H1 ρ1 x1 s1 => ⟨fun p o hp f => ?_, fun v H' x s' rv ht => ?_⟩⟩
  · have r1 := r.step x1 s1
    have hs : ∀ z : Addr, (σ.set i (some (.ref z)))[i]? = some (some (.ref z)) := fun z => List.getElem?_set_self (by rw [r.er.len]; exact hi)
    cases f with
    | lst rr =>
      cases e2
      exact q _ _ _ _ (r1.mine hp hi rfl fun nb => .ol (hs p) List.mem_cons_self nb upd_same (VRs.mono (keep_ban s1 hp) _ _ rr))
    | dct rr =>
      cases e2
      exact q _ _ _ _ (r1.mine hp hi rfl fun nb => .od (hs p) List.mem_cons_self nb upd_same (VRk.mono (keep_ban s1 hp) _ _ rr))
  · cases d <;> simp only [isT] at ht <;> first | (cases ht; done) | skip
    cases e2
/-- x = e of an ordinary e -/
theorem set_E {x : Str} {pos' : Pos} (hN : X.N.Nodup) (hi : X.N[i]? = some x) (hx : Loc X.env.scope x) (he : PE X e (tE G C ex)) (hs : swapsWith e (some (.Name x pos')) pos.line X.env = pure false) (hf : X.fn x = true ∨ X.env.scope.names.lookup x = some .local) :
    PS X (.Assign [.Name x pos'] e pos) (tAsg (tE G C ex) (gName i)) := ps_set hN hi hx he hs hf
theorem set_F {x : Str} {pos' : Pos} (hN : X.N.Nodup) (hi : X.N[i]? = some x) (hx : Loc X.env.scope x) (he : PE X e (tF G C ex)) (hs : swapsWith e (some (.Name x pos')) pos.line X.env = pure false) (hf : X.fn x = true ∨ X.env.scope.names.lookup x = some .local) :
    PS X (.Assign [.Name x pos'] e pos) (tAsg (tF G C ex) (gName i)) := ps_set hN hi hx he hs hf
/-- a, b = e1, e2 -/
theorem sim_par {j : Nat} {x y : Str} {a b : Expr} {px py pt pt2 : Pos} {kt k2 : Nat} {exs : Es} (hc : X.calm = true) (hN : X.N.Nodup) (hi : X.N[i]? = some x) (hj : X.N[j]? = some y) (hij : i ≠ j) (hx : X.env.scope.names.lookup x = some .local) (hy : X.env.scope.names.lookup y = some .local) (ha : PA X [a, b] (tEs G C exs))
    (hw : swappedStores [.Tuple [.Name x px, .Name y py] kt pt] (.Tuple [a, b] k2 pt2) X.env = pure (some [x, y])) : PS X (.Assign [.Tuple [.Name x px, .Name y py] kt pt] (.Tuple [a, b] k2 pt2) pos) (tS G C (.asg (.tp (.cons (.nm i) (.cons (.nm j) .nil))) (.tup exs))) :=
  impS (ps_par hc hN hi hj hij hx hy ha hw rfl) fun De σ H ⟨H0, ρ0, B0, ms, env, S, ρ, B, fl, r, ev, q⟩ => by
    rw [evS] at ev
    obtain ⟨⟨d, S1⟩, e1, e2⟩ := Option.bind_eq_some_iff.mp ev
    obtain ⟨env1, e3, e4⟩ := Option.map_eq_some_iff.mp e2
    cases e4
    rw [evE] at e1
    obtain ⟨⟨ds, S2⟩, e5, e6⟩ := Option.bind_eq_some_iff.mp e1
    split at e6
    · cases e6
      refine ⟨env, S, ρ, B, B0, ds, S2, r.sr, r.er, e5, fun vs H1 ρ1 x1 s1 r1 => ?_⟩
      rw [asgT] at e3
      have hl := asgTs_len (show asgTs _ ds env = some env1 from e3)
      cases r1 with
      | nil => cases hl
      | cons ra r2 =>
        cases r2 with
        | nil => cases hl
        | cons rb r3 =>
          cases r3 with
          | cons _ _ => cases hl
          | nil =>
            have e3 : some (setS (setS env i _) j _) = some env1 := e3
            cases e3
            exact ⟨_, _, rfl, q _ _ _ _ ⟨s1, ((r.er.ext r.sr x1).set ra).set rb, r.sub, r.new, r.ext.trans x1, fun m h => (r.mks m h).ext r.sr x1⟩⟩
    · cases e6
theorem sim_par3 {j l : Nat} {x y z : Str} {a b c : Expr} {px py pz pt pt2 : Pos} {kt k2 : Nat} {exs : Es} (hc : X.calm = true) (hN : X.N.Nodup) (hi : X.N[i]? = some x) (hj : X.N[j]? = some y) (hl : X.N[l]? = some z) (hij : i ≠ j) (hil : i ≠ l) (hjl : j ≠ l)
    (hx : X.env.scope.names.lookup x = some .local) (hy : X.env.scope.names.lookup y = some .local) (hz : X.env.scope.names.lookup z = some .local) (ha : PA X [a, b, c] (tEs G C exs))
    (hw : swappedStores [.Tuple [.Name x px, .Name y py, .Name z pz] kt pt] (.Tuple [a, b, c] k2 pt2) X.env = pure (some [x, y, z])) : PS X (.Assign [.Tuple [.Name x px, .Name y py, .Name z pz] kt pt] (.Tuple [a, b, c] k2 pt2) pos) (tS G C (.asg (.tp (.cons (.nm i) (.cons (.nm j) (.cons (.nm l) .nil)))) (.tup exs))) :=
  impS (ps_par3 hc hN hi hj hl hij hil hjl hx hy hz ha hw rfl) fun De σ H ⟨H0, ρ0, B0, ms, env, S, ρ, B, fl, r, ev, q⟩ => by
    rw [evS] at ev
    obtain ⟨⟨d, S1⟩, e1, e2⟩ := Option.bind_eq_some_iff.mp ev
    obtain ⟨env1, e3, e4⟩ := Option.map_eq_some_iff.mp e2
    cases e4
    rw [evE] at e1
    obtain ⟨⟨ds, S2⟩, e5, e6⟩ := Option.bind_eq_some_iff.mp e1
    split at e6
    · cases e6
      refine ⟨env, S, ρ, B, B0, ds, S2, r.sr, r.er, e5, fun vs H1 ρ1 x1 s1 r1 => ?_⟩
      rw [asgT] at e3
      have hl := asgTs_len (show asgTs _ ds env = some env1 from e3)
      cases r1 with
      | nil => cases hl
      | cons ra r2 =>
        cases r2 with
        | nil => cases hl
        | cons rb r3 =>
          cases r3 with
          | nil => cases hl
          | cons rc r4 =>
            cases r4 with
            | cons _ _ => cases hl
            | nil =>
              have e3 : some (setS (setS (setS env i _) j _) l _) = some env1 := e3
              cases e3
              exact ⟨_, _, _, rfl, q _ _ _ _ ⟨s1, (((r.er.ext r.sr x1).set ra).set rb).set rc, r.sub, r.new, r.ext.trans x1, fun m h => (r.mks m h).ext r.sr x1⟩⟩
    · cases e6

/-! ### o[i] = e -/
def rPut : TSet := fun o i v H Q => rSetL o i v H Q ∨ ∃ a H4, o = .ref a ∧ DPut H a i v H4 ∧ Q H4
theorem set_any (hu : X.A.units + 1 < cLine) : PSet X rPut := by
  intro pins s σ H o i v ov iv u Q I ro ri rv h
  rcases h with h | ⟨a, H4, rfl, g, q⟩
  · exact set_list pins s σ H o i v ov iv u Q I ro ri rv h
  · obtain rfl : ov = Value.ref a := ro
    exact d_setItem hu I g ri rv fun s' I' => ⟨H4, I', q⟩
def noSlice : Expr → Bool
  | .Slice _ _ _ _ => false
  | _ => true
theorem asg_sub {o i : Expr} {env : PySem.Env} (h : noSlice i = true) (v : Value) : assign (.Subscript o i pos) env v = (do
      let ov ← holding [v] (eval o env)
      let iv ← holding [v, ov] (eval i env)
      standAt pos
      holding [v, ov, iv] (setItem ov iv v)
      release [v, ov, iv] []) := by
  cases i <;> first | rfl | cases h
theorem key_kV {G : Cr} {H : Hp} {ρ B : List Addr} {d : D} {k : Key} {v : V} (h : keyOf d = some k) (r : VR G H ρ B d v) : v = kV k := by
  cases d with
  | int i => cases h; cases r; rfl
  | str i => cases h; cases r; rfl
  | _ => cases h
theorem sim_put (hu : X.A.units + 1 < cLine) {o i : Expr} {eo ei : E} {pos' : Pos} (he : PE X e (tE G C ex)) (ho : PE X o (tE G C eo)) (hi : PE X i (tE G C ei)) (hni : noSlice i = true) (hs : swapsWithSole [.Subscript o i pos'] e pos.line X.env = pure false) :
    PS X (.Assign [.Subscript o i pos'] e pos) (tS G C (.put eo ei ex)) :=
  impS (ps_asg he (pg_sub ho hi (set_any hu) (asg_sub hni)) hs rfl rfl) fun De σ H ⟨H0, ρ0, B0, ms, env, S, ρ, B, fl, r, ev, q⟩ => by
    rw [evS] at ev
    obtain ⟨⟨d, S1⟩, ⟨d2, S2⟩, e1, e2, e3⟩ := bind2 ev
    obtain ⟨⟨d3, S3⟩, e4, e5⟩ := Option.bind_eq_some_iff.mp e3
    refine ⟨env, S, ρ, B, B0, d, S1, r.sr, r.er, e1, fun v H1 ρ1 x1 s1 r1 => ⟨env, S1, ρ1, B, B0, d2, S2, s1, r.er.ext r.sr x1, e2, fun w H2 ρ2 x2 s2 r2 => ⟨env, S2, ρ2, B, B0, d3, S3, s2, (r.er.ext r.sr x1).ext s1 x2, e4, fun z H3 ρ3 x3 s3 r3 => ?_⟩⟩⟩
    cases d2 <;> first | (cases e5; done) | skip
    rename_i a
    replace e5 : (S3[a]?).bind (fun ob => (putAt ob d3 d).map fun ob' => Fl.nx env (S3.set a ob')) = some fl := e5
    obtain ⟨ob, ob', e6, e7, e8⟩ : ∃ ob ob', S3[a]? = some ob ∧ putAt ob d3 d = some ob' ∧ Fl.nx env (S3.set a ob') = fl := by
      obtain ⟨ob, h1, h2⟩ := Option.bind_eq_some_iff.mp e5
      obtain ⟨ob', h3, h4⟩ := Option.map_eq_some_iff.mp h2
      exact ⟨ob, ob', h1, h3, h4⟩
    clear e5 e3 ev
    subst e8
    have x13 := (x1.trans x2).trans x3
    cases r2 with
    | ref ha =>
      have ha3 := (x3.keeps s2).ref _ _ ha
      have rd : VR G H3 ρ3 B d v := (r1.ext s1 x2).ext s2 x3
      cases s3.ob a _ _ e6 ha3 with
      | @lst _ ds vs h1 rr =>
        cases d3 <;> first | (cases e7; done) | skip
        rename_i ii
        obtain ⟨jj, e9, e10⟩ := Option.map_eq_some_iff.mp (show (ixN ds.length ii).map (fun j => Ob.lst (ds.set j d)) = some ob' from e7)
        subst e10
        cases r3
        refine .inl ⟨_, _, _, jj, rfl, rfl, h1, by rw [rr.length]; exact e9, ?_⟩
        obtain ⟨s4, x4⟩ := s3.write (o := .lst (vs.set jj v)) (ob := .lst (ds.set jj d)) ha3 e6 trivial fun k => .lst upd_same (VRs.mono k _ _ (rr.set rd jj))
        exact q _ _ _ _ ((r.step x13 s3).step x4 s4)
      | @dct _ ds vs h1 rr =>
        obtain ⟨k, e9, e10⟩ := Option.bind_eq_some_iff.mp (show (keyOf d3).bind (fun k => if ds.length < sizeLine then some (Ob.dct (put ds k d)) else none) = some ob' from e7)
        split at e10
        · rename_i hz
          cases e10
          cases key_kV e9 r3
          refine .inr ⟨_, _, rfl, DPut.k h1 (by rw [rr.length]; exact hz), ?_⟩
          obtain ⟨s4, x4⟩ := s3.write (o := .dK (putK vs k v)) (ob := .dct (put ds k d)) ha3 e6 trivial fun kk => .dct upd_same (VRk.mono kk _ _ (VRk.put rd rr))
          exact q _ _ _ _ ((r.step x13 s3).step x4 s4)
        · cases e10
      | ins h1 _ _ => cases e7
theorem sim_pst (hu : X.A.units + 1 < cLine) {i : Expr} {ei : E} {x : Str} {pos' pn : Pos} {n : Nat} (hN : X.N[n]? = some x) (hv : Vis X.env.scope x) (hd : (x == ("__debug__" : Str)) = false) (hcd : (x == ("__classdict__" : Str)) = false) (he : PE X e (tE G C ex)) (hi : PE X i (tE G C ei)) (hni : noSlice i = true)
    (hs : swapsWithSole [.Subscript (.Name x pn) i pos'] e pos.line X.env = pure false) : PS X (.Assign [.Subscript (.Name x pn) i pos'] e pos) (tS G C (.pst n ei ex)) :=
  impS (ps_asg he (pg_sub (pe_var hN hv hd hcd) hi (set_any hu) (asg_sub hni)) hs rfl rfl) fun De σ H ⟨H0, ρ0, B0, ms, env, S, ρ, B, fl, r, ev, q⟩ => by
    rw [evS] at ev
    obtain ⟨⟨d, S1⟩, ⟨d3, S3⟩, e1, e4, e5⟩ := bind2 ev
    refine ⟨env, S, ρ, B, B0, d, S1, r.sr, r.er, e1, fun v H1 ρ1 x1 s1 r1 => ?_⟩
    have rs1 := r.step x1 s1
    split at e5
    · rename_i ds hx
      obtain ⟨k, e9, e10⟩ := Option.bind_eq_some_iff.mp e5
      split at e10
      · rename_i hz
        cases e10
        cases r.er.sl n _ hx with
        | @od a _ vs es hb hn hh rr =>
          refine ⟨_, es, env, S1, ρ1, B, B0, d3, S3, s1, rs1.er, e4, fun z H3 ρ3 x3 s3 r3 => ?_⟩
          cases key_kV e9 r3
          have x13 := x1.trans x3
          have h3 : H3 a = some (.dK vs) := x13.keep _ _ hh (r.sr.bt a hb).2
          have rs3 := r.step x13 s3
          refine .inr ⟨_, _, rfl, DPut.k h3 (by rw [rr.length]; exact hz), ?_⟩
          refine q _ _ _ _ (rs3.wrote hx rfl es hb hn (by rw [h3]; trivial) rfl fun kk => .od es hb hn upd_same (VRk.mono kk _ _ (VRk.put (r1.ext s1 x3) (VRk.mono (x13.keeps r.sr) _ _ rr))))
      · cases e10
    · rename_i ds hx
      cases d3 <;> first | (cases e5; done) | skip
      rename_i ii
      obtain ⟨jj, e9, e10⟩ := Option.map_eq_some_iff.mp (show (ixN ds.length ii).map (fun j => Fl.nx (env.set n (.ol (ds.set j d))) S3) = some fl from e5)
      subst e10
      cases r.er.sl n _ hx with
      | @ol a _ vs es hb hn hh rr =>
        refine ⟨_, es, env, S1, ρ1, B, B0, _, S3, s1, rs1.er, e4, fun z H3 ρ3 x3 s3 r3 => ?_⟩
        cases r3
        have x13 := x1.trans x3
        have h3 : H3 a = some (.lst vs) := x13.keep _ _ hh (r.sr.bt a hb).2
        have rs3 := r.step x13 s3
        refine .inl ⟨_, _, _, jj, rfl, rfl, h3, by rw [rr.length]; exact e9, ?_⟩
        refine q _ _ _ _ (rs3.wrote hx rfl es hb hn (by rw [h3]; trivial) rfl fun kk => .ol es hb hn upd_same (VRs.mono kk _ _ ((VRs.mono (x13.keeps r.sr) _ _ rr).set (r1.ext s1 x3) jj)))
    · cases e5
theorem sim_apS {b : Expr} {eb : E} {x : Str} {apos pn cpos : Pos} {n : Nat} (hN : X.N[n]? = some x) (hv : Vis X.env.scope x) (hd : (x == ("__debug__" : Str)) = false) (hcd : (x == ("__classdict__" : Str)) = false) (hb : PE X b (tE G C eb)) (hl : (apos.endLine == cpos.line) = true) (hst : notStar b = true) :
    PS X (.Expr (.Call (.Attribute (.Name x pn) "append" apos) [b] [] cpos) pos) (tS G C (.apS n eb)) := by
  have hs1 : starEach [b] X.env = [(false, eval b X.env)] := star_cons hst
  refine impS (ps_expr (pe_bm PySem.F.plainAttrs_list PySem.F.slot_list_append PySem.F.type_list_append mt_append (pe_var hN hv hd hcd) (sim_cons hb sim_nil hs1) rfl (by rw [hs1]; rfl) hl hs1 rfl) rfl) fun De σ H ⟨H0, ρ0, B0, ms, env, S, ρ, B, fl, r, ev, q⟩ => ?_
  rw [evS] at ev
  obtain ⟨⟨d, S1⟩, e1, e2⟩ := Option.bind_eq_some_iff.mp ev
  split at e2
  · rename_i ds hx
    split at e2
    · rename_i hz
      cases e2
      cases r.er.sl n _ hx with
      | @ol a _ vs es hb' hn hh rr =>
        refine ⟨_, es, .inl ⟨rfl, _, SqL.of hh⟩, env, S, ρ, B, B0, [d], S1, r.sr, r.er, by rw [evEs, e1]; rfl, fun ws H1 ρ1 x1 s1 r1 => ?_⟩
        cases r1 with
        | cons ra rb =>
          cases rb
          have h3 : H1 a = some (.lst vs) := x1.keep _ _ hh (r.sr.bt a hb').2
          refine ⟨_, _, _, rfl, rfl, h3, by rw [rr.length]; exact hz, ?_⟩
          exact q _ _ _ _ ((r.step x1 s1).wrote hx rfl es hb' hn (by rw [h3]; trivial) rfl fun kk => .ol es hb' hn upd_same (VRs.mono kk _ _ ((VRs.mono (x1.keeps r.sr) _ _ rr).append (.cons ra .nil))))
    · cases e2
  · cases e2
end
end Wf
set_option Elab.async false
set_option linter.all false
namespace Wf
open PySem L2
variable {G : Cr} {C : Orc}
section
variable {X : Cx} {e a b c d : Expr} {ex ea eb ec ed : E} {pa pb : P} {pos : Pos}
theorem sim_bad : PE X e (tF G C .bad) := ⟨fun pins s σ H Q I ⟨env, S, ρ, B, B0, d, S', sr, er, ev, q⟩ => by rw [evE] at ev; cases ev⟩
theorem test_bad : PT X e (tT G C .bad) := ⟨fun pins s σ H Q I ⟨env, S, ρ, B, B0, d, S', sr, er, ev, q⟩ => by rw [evE] at ev; cases ev⟩
theorem testW_bad : PW X e (tT G C .bad) := ⟨fun wh pins s σ H Q I ⟨env, S, ρ, B, B0, d, S', sr, er, ev, q⟩ => by rw [evE] at ev; cases ev⟩
theorem simS_bad {st : Stmt} : PS X st (tS G C .bad) := ⟨fun pins s σ H De I ⟨H0, ρ0, B0, ms, env, S, ρ, B, fl, r, ev, q⟩ => by rw [evS] at ev; cases ev⟩
/-! ### isinstance, of a built-in type -/
def tyName : Ty → String
  | .int => "int" | .bool => "bool" | .str => "str" | .tuple => "tuple" | .list => "list" | .dict => "dict"
def dTy : D → String
  | .non => "NoneType" | .bl _ => "bool" | .int _ => "int" | .str _ => "str" | .tup _ => "tuple" | .lst _ => "list" | .dct _ => "dict" | _ => ""
theorem kit_is (K : PySem.W.Frag) (d : D) (t : Ty) (k : Bool) (h : semIsi t d = some k) : PySem.W.kitOne K (.type (dTy d)) (.type (tyName t)) = some k := by
  cases d <;> cases t <;> simp [semIsi] at h <;> subst h <;> rfl
theorem ty_of {H : Hp} {ρ B : List Addr} {D1 : D} {v : V} {t : Ty} {k : Bool} (r : TR G H ρ B D1 v) (h : semIsi t D1 = some k) : TyX G.K H v (.type (dTy D1)) := by
  cases r with
  | of r =>
    cases r with
    | non => exact .base .non
    | bl b => exact .base (.bl b)
    | int b => exact .base (.int b)
    | str b => exact .base (.str b)
    | tup s _ =>
      rcases s with s | ⟨o, its, n, e1, e2, e3, _⟩
      · rcases s with s | ⟨o, s⟩
        · exact .base (.tup s)
        · exact .fTuple s
      · exact .kTuple e1 e2
    | lst s _ => exact .base (.lst s.1)
    | dct s _ => exact .base (.dK s.1)
    | ref _ => cases h
    | scr _ => cases h
    | kdc _ => cases h
  | lst s _ => exact .base (.lst s)
  | dct s _ => exact .base (.dK s)
theorem sim_isi (hK : X.K = G.K) {t : Ty} {p p2 : Pos} (gi : Gl X "isinstance") (mi : X.mg "isinstance" = none) (gt : Gl X (tyName t)) (mt : X.mg (tyName t) = none) (ha : PE X a (tP G C pa)) (hs : notStar a = true) :
    PE X (.Call (.Name "isinstance" p) [a, .Name (tyName t) p2] [] pos) (tE G C (.isi pa t)) := by
  have pt : PE X (.Name (tyName t) p2) (fun _ H Q => Q (.ty (tyName t)) H) := ⟨fun pins s σ H Q I h => ld_blt I gt mt (by cases t <;> decide +kernel) ⟨.ty (tyName t), H, I, rfl, h⟩ (by cases t <;> decide) (by cases t <;> decide)⟩
  have bi : bootBuiltins "isinstance" = some (.builtin "isinstance") := by decide +kernel
  refine impE (pe_callB (id := "isinstance") call_isi gi mi bi (pa_cons ha (pa_cons pt pa_nil (star_cons rfl)) (star_cons hs)) (by decide) (by decide) (star_cons hs) (star_any (by rfl))) fun σ H Q ⟨env, S, ρ, B, B0, d, S', s, er, ev, q⟩ => ?_
  rw [evE] at ev
  obtain ⟨⟨d1, S1⟩, e1, e2⟩ := Option.bind_eq_some_iff.mp ev
  obtain ⟨k, e3, e4⟩ := Option.map_eq_some_iff.mp e2
  cases e4
  refine ⟨env, S, ρ, B, B0, d1, S1, s, er, e1, fun v H1 ρ1 x1 s1 r1 => ⟨v, _, _, _, k, rfl, .ty _, by rw [hK]; exact ty_of (r1.top s1) e3, by rw [hK]; exact kit_is _ _ _ _ e3, q _ _ _ x1 s1 (.bl k)⟩⟩
/-! ### instances -/
theorem VRf.look {H : Hp} {ρ B : List Addr} {f : Str} {d : D} : ∀ {fs : List (Str × D)} {gs : List (Str × V)}, VRf G H ρ B fs gs → fs.lookup f = some d → ∃ v, gs.lookup f = some v ∧ VR G H ρ B d v
  | _, _, .nil, h => by cases h
  | (k, x) :: fs, (k', y) :: gs, .cons h r, e => by
    obtain ⟨hk, hv⟩ := h
    have hk : k = k' := hk
    subst hk
    rw [List.lookup_cons] at e ⊢
    split at e
    · rename_i z
      cases e
      exact ⟨y, rfl, hv⟩
    · rename_i z
      exact VRf.look r e
theorem VRf.none {H : Hp} {ρ B : List Addr} {f : Str} : ∀ {fs : List (Str × D)} {gs : List (Str × V)}, VRf G H ρ B fs gs → fs.lookup f = Option.none → gs.lookup f = Option.none
  | _, _, .nil, _ => rfl
  | (k, x) :: fs, (k', y) :: gs, .cons h r, e => by
    obtain ⟨hk, hv⟩ := h
    have hk : k = k' := hk
    subst hk
    rw [List.lookup_cons] at e ⊢
    split at e
    · cases e
    · rename_i z
      exact VRf.none r e
theorem VRf.len {H : Hp} {ρ B : List Addr} : ∀ {fs : List (Str × D)} {gs : List (Str × V)}, VRf G H ρ B fs gs → gs.length = fs.length
  | _, _, .nil => rfl
  | _, _, .cons _ r => congrArg Nat.succ (VRf.len r)
theorem VRf.put {H : Hp} {ρ B : List Addr} {f : Str} {d : D} {v : V} (hv : VR G H ρ B d v) : ∀ {fs : List (Str × D)} {gs : List (Str × V)}, VRf G H ρ B fs gs → VRf G H ρ B (putD f d fs) (putF f v gs)
  | _, _, .nil => .cons ⟨rfl, hv⟩ .nil
  | (k, x) :: fs, (k', y) :: gs, .cons h r => by
    obtain ⟨hk, hx⟩ := h
    have hk : k = k' := hk
    subst hk
    unfold putD putF
    split
    · exact .cons ⟨rfl, hv⟩ r
    · exact .cons ⟨rfl, hx⟩ (VRf.put hv r)
theorem SR.ins {H : Hp} {ρ B : List Addr} {S : Sto} {i c : Nat} {fs : List (Str × D)} {v : V} (s : SR G H ρ B S) (h : S[i]? = some (.ins c fs)) (r : VR G H ρ B (.ref i) v) : ∃ a Cc dx gs, v = .ref a ∧ ρ[i]? = some a ∧ H a = some (.ins Cc dx gs) ∧ G.cl c = some Cc ∧ VRf G H ρ B fs gs := by
  cases r with
  | ref ha =>
    cases s.ob i _ _ h ha with
    | ins h1 h2 h3 => exact ⟨_, _, _, _, rfl, ha, h1, h2, h3⟩
theorem sim_att {c : Nat} {f : Str} (hc : ∀ Cc, G.cl c = some Cc → Cls X.K Cc ∧ NoAttr X.K Cc f) (ha : PE X a (tE G C ea)) (hs : noSup a = true) : PE X (.Attribute a f pos) (tE G C (.att c ea f)) :=
  impE (pe_fld ha (base_of hs)) fun σ H Q ⟨env, S, ρ, B, B0, d, S', s, er, ev, q⟩ => by
    rw [evE] at ev
    obtain ⟨⟨d1, S1⟩, ⟨i, fs⟩, e1, e2, e3⟩ := bind2 ev
    obtain ⟨z, e4, e5⟩ := Option.map_eq_some_iff.mp e3
    cases e5
    obtain ⟨h1, h2⟩ := refI_of e2
    have h1 : d1 = .ref i := h1
    refine ⟨env, S, ρ, B, B0, d1, S1, s, er, e1, fun v H1 ρ1 x1 s1 r1 => ?_⟩
    rw [h1] at r1
    obtain ⟨ad, Cc, dx, gs, rfl, _, g1, g2, g3⟩ := s1.ins h2 r1
    obtain ⟨v, l1, l2⟩ := g3.look e4
    exact ⟨ad, Cc, dx, gs, v, rfl, g1, (hc Cc g2).1, (hc Cc g2).2, l1, q _ _ _ x1 s1 l2⟩
theorem sim_sat {c : Nat} {f : Str} {o : Expr} {eo : E} {pos' : Pos} (hc : ∀ Cc, G.cl c = some Cc → Cls X.K Cc ∧ NoAttr X.K Cc f) (he : PE X e (tE G C ex)) (ho : PE X o (tE G C eo)) (hs : swapsWith e (some (.Attribute o f pos')) pos.line X.env = pure false) :
    PS X (.Assign [.Attribute o f pos'] e pos) (tS G C (.sat c eo f ex)) :=
  impS (ps_fld ho he hs) fun De σ H ⟨H0, ρ0, B0, ms, env, S, ρ, B, fl, r, ev, q⟩ => by
    rw [evS] at ev
    obtain ⟨⟨d, S1⟩, ⟨d2, S2⟩, e1, e2, e3⟩ := bind2 ev
    obtain ⟨⟨i, fs⟩, e4, e5⟩ := Option.bind_eq_some_iff.mp e3
    split at e5
    · rename_i hz
      cases e5
      obtain ⟨h1, h2⟩ := refI_of e4
      have h1 : d2 = .ref i := h1
      refine ⟨env, S, ρ, B, B0, d, S1, r.sr, r.er, e1, fun v H1 ρ1 x1 s1 r1 => ⟨env, S1, ρ1, B, B0, d2, S2, s1, r.er.ext r.sr x1, e2, fun w H2 ρ2 x2 s2 r2 => ?_⟩⟩
      rw [h1] at r2
      obtain ⟨ad, Cc, dx, gs, rfl, ha, g1, g2, g3⟩ := s2.ins h2 r2
      refine ⟨ad, Cc, dx, gs, rfl, g1, (hc Cc g2).1, (hc Cc g2).2, by rw [g3.len]; exact hz, ?_⟩
      obtain ⟨s4, x4⟩ := s2.write (o := .ins Cc dx (putF f v gs)) (ob := .ins c (putD f d fs)) ha h2 trivial fun k => .ins upd_same g2 ((VRf.put (r1.ext s1 x2) g3).mono k)
      exact q _ _ _ _ ((r.step (x1.trans x2) s2).step x4 s4)
    · cases e5
end
end Wf
set_option Elab.async false
set_option linter.all false
namespace Wf
open PySem L2
variable {G : Cr} {C : Orc}
section
variable {X : Cx} {pos p : Pos} {x : Str} {fa f0 : Addr} {fd : FuncData} {ps : List Str} {n : Nat} {f : Nat} {args : List Expr} {kws : List Keyword} {es ks : Es} {perm : List Ag} {kn : List Str}
/-- the arguments of a call, whatever is called -/
theorem cw_args {first : List Value} {Qf : Value → Shared → Prop} {pins : List (Addr × Obj)} {s0 : Shared} {σ : St} {H : Hp} {ρ B B0 : List Addr} {S S1 S2 : Sto} {env : Env} {d1 d2 : List D} (hk : PySem.W.keepIn X.K (.ref f0) = true) (ha : PA X args (tEs G C es)) (hkw : PK X kws (tEs G C ks)) (hst : args.all notStar = true)
    (hkn : kws.map Keyword.arg = kn.map some) (la : args.length = es.len) (lk : kn.length = ks.len) (I : Inv X pins σ H s0) (s : SR G H ρ B S) (er : ER G H ρ B B0 σ env) (e1 : evEs C es env S = some (d1, S1)) (e2 : evEs C ks env S1 = some (d2, S2))
    (fin : ∀ us ws vs zs s2 H2 ρ2, Inv X pins σ H2 s2 → Ext H ρ H2 ρ2 → SR G H2 ρ2 B S2 → Vals vs us → Vals zs ws → VRs G H2 ρ2 B d1 vs → VRs G H2 ρ2 B d2 zs → us.length = args.length → ws.length = kn.length →
      wpAny (model X.prog X.w) X.A (call (.ref f0) (first ++ us) (kn.zip ws)) Qf X.xe s2) :
    wpAny (model X.prog X.w) X.A (callWith pos (.ref f0) first (backTo pos (starEach args X.env)) (backToKw pos (keywordEach kws X.env))) Qf X.xe s0 := by
  obtain ⟨k1, k2, k3⟩ := kw_all (pos := pos) (env := X.env) hkn
  have kv : ∀ {s1 : Shared} {H1 : Hp} {ρ1 : List Addr} {us : List Value} {vs : List V}, Inv X pins σ H1 s1 → Ext H ρ H1 ρ1 → SR G H1 ρ1 B S1 → Vals vs us → VRs G H1 ρ1 B d1 vs → us.length = args.length →
      wpAny (model X.prog X.w) X.A (evalAll ((backToKw pos (keywordEach kws X.env)).map (·.2))) (fun ws s2 => X.K.In s2.heap ∧ wpAny (model X.prog X.w) X.A (call (.ref f0) (first ++ us) (kn.zip ws)) Qf X.xe s2) X.xe s1 := by
    intro s1 H1 ρ1 us vs I1 x1 sr1 rv1 r1 l1
    refine thn (hkw.run pos pins s1 σ H1 (fun zs H2 => ∃ ρ2, Ext H1 ρ1 H2 ρ2 ∧ SR G H2 ρ2 B S2 ∧ VRs G H2 ρ2 B d2 zs ∧ zs.length = kn.length) I1 ⟨env, S1, ρ1, B, B0, d2, S2, sr1, er.ext s x1, e2, fun zs H2 ρ2 x2 s2 r2 => ⟨ρ2, x2, s2, r2, ?_⟩⟩) fun ws s2 ⟨zs, H2, I2, rz, ρ2, x2, sr2, r2, l2⟩ => ⟨I2.kIn, ?_⟩
    · rw [r2.length, evEs_len e2, lk]
    · exact fin us ws vs zs s2 H2 ρ2 I2 (x1.trans x2) sr2 rv1 rz (r1.ext sr1 x2) r2 l1 (rz.length.symm.trans l2)
  have av : wpAny (model X.prog X.w) X.A (spliced (backTo pos (starEach args X.env))) (fun us s1 => ∃ vs H1 ρ1, Inv X pins σ H1 s1 ∧ Ext H ρ H1 ρ1 ∧ SR G H1 ρ1 B S1 ∧ Vals vs us ∧ VRs G H1 ρ1 B d1 vs ∧ us.length = args.length) X.xe s0 := by
    refine thn (ha.run pos pins s0 σ H (fun vs H1 => ∃ ρ1, Ext H ρ H1 ρ1 ∧ SR G H1 ρ1 B S1 ∧ VRs G H1 ρ1 B d1 vs) I ⟨env, S, ρ, B, B0, d1, S1, s, er, e1, fun vs H1 ρ1 x1 s1 r1 => ⟨ρ1, x1, s1, r1⟩⟩) fun us s1 ⟨vs, H1, I1, rv, ρ1, x1, sr1, r1⟩ => ⟨vs, H1, ρ1, I1, x1, sr1, rv, r1, ?_⟩
    rw [← rv.length, r1.length, evEs_len e1, la]
  have noK : kws = [] → kn = [] ∧ d2 = [] ∧ S2 = S1 := by
    rintro rfl
    have hn : kn = [] := by cases kn with | nil => rfl | cons _ _ => cases hkn
    subst hn
    cases ks with
    | nil => rw [evEs] at e2; cases e2; exact ⟨rfl, rfl, rfl⟩
    | cons _ _ => cases lk
  cases args with
  | nil =>
    have e1' : d1 = [] ∧ S1 = S := by
      cases es with
      | nil => rw [evEs] at e1; cases e1; exact ⟨rfl, rfl⟩
      | cons _ _ => cases la
    obtain ⟨h1, h2⟩ := e1'
    subst h1 h2
    cases kws with
    | nil =>
      obtain ⟨h1, h2, h3⟩ := noK rfl
      subst h1 h2 h3
      have q := fin [] [] [] [] s0 H ρ I Ext.refl s .nil .nil .nil .nil rfl rfl
      exact PySem.W.callWith_K0 I.kIn hk q
    | cons kw kws =>
      refine PySem.W.callWith_KW0 (h₀ := X.base) I.ok.mod.kin hk k1 ?_ (by rw [k3]; rfl)
      rw [k2]
      exact kv (us := []) (vs := []) I Ext.refl s .nil .nil rfl
  | cons e es' =>
    rw [List.all_cons, Bool.and_eq_true] at hst
    cases kws with
    | nil =>
      obtain ⟨h1, h2, h3⟩ := noK rfl
      subst h1 h2 h3
      exact PySem.W.callWith_K (h₀ := X.base) I.ok.mod.kin hk (thn av fun us s1 ⟨vs, H1, ρ1, I1, x1, sr1, rv, r1, l1⟩ => ⟨I1.kIn, fin us [] vs [] s1 H1 ρ1 I1 x1 sr1 rv .nil r1 .nil l1 rfl⟩) (star_cons hst.1) (star_any hst.2)
    | cons kw kws =>
      refine PySem.W.callWith_KW (h₀ := X.base) I.ok.mod.kin hk k1 (thn av fun us s1 ⟨vs, H1, ρ1, I1, x1, sr1, rv, r1, l1⟩ => ?_) (by rw [k3, star_cons hst.1]; show ((false || (backTo pos (starEach es' X.env)).any (·.1)) || false) = false; rw [star_any hst.2]; rfl) (star_cons hst.1)
      rw [k2]
      exact kv I1 x1 sr1 rv r1 l1
theorem make_guards {A : Around} {Cc : Addr} {us : List Value} {kw : List (Str × Value)} : (A.under (.builtin "type.__call__" ⟨.ref Cc :: us, kw⟩)).guards = A.guards := by
  first | rfl | simp [Around.under, Code.isGuard, guardIds]
theorem sim_mk {c : Nat} {Cc : Addr} (hK : X.K = G.K) (hcl : G.cl c = some Cc) (M : Mk X.K Cc fa) (F : FnG X.prog X.w X.K X.mg X.base n fa fd ps (spOf G (C.call f))) (hr : Room (n + 1) X.A) (hg : X.A.guards = some []) (hb : CB G fd ps (args.length + 1) kn perm) (gl : Gl X x) (hm : X.mg x = some (.ref Cc))
    (ha : PA X args (tEs G C es)) (hkw : PK X kws (tEs G C ks)) (hst : args.all notStar = true) (hkn : kws.map Keyword.arg = kn.map some) (hdb : (x == ("__debug__" : Str)) = false) (la : args.length = es.len) (lk : kn.length = ks.len) :
    PE X (.Call (.Name x p) args kws pos) (tE G C (.mk c f es ks perm)) := by
  refine ⟨fun pins s0 σ H Q I w => ?_⟩
  obtain ⟨env, S, ρ, B, B0, d, S', s, er, ev, q⟩ := w
  rw [evE] at ev
  obtain ⟨⟨d1, S1⟩, ⟨d2, S2⟩, e1, e2, e3⟩ := bind2 ev
  obtain ⟨ds, ⟨d3, S3⟩, e4, e5, e6⟩ := bind2 e3
  have e7 : d3 = .non ∧ d = .ref S2.length ∧ S' = S3 := by
    cases d3 <;> first | (cases e6; done) | skip
    cases e6
    exact ⟨rfl, rfl, rfl⟩
  obtain ⟨rfl, rfl, rfl⟩ := e7
  refine wpAny_Call_Name_kw (ld_glob I gl hm ?_ hdb)
  refine cw_args M.kp ha hkw hst hkn la lk I s er e1 e2 fun us ws vs zs s2 H2 ρ2 I2 x2 sr2 rv rz r1 r2 l1 l2 => ?_
  have n1 : H2 (s2.heap.objs.size + 1) = none := I2.hok.fresh (Nat.le_succ _)
  have n0 : H2 s2.heap.objs.size = none := I2.hok.fresh (Nat.le_refl _)
  have ne : s2.heap.objs.size ≠ s2.heap.objs.size + 1 := Nat.ne_of_lt (Nat.lt_succ_self _)
  have I3 := Inv.made (C := Cc) I2
  have sl := sr2.laid (o := .own (s2.heap.objs.size + 1)) n0
  have xl : Ext H2 ρ2 (upd H2 s2.heap.objs.size (.own (s2.heap.objs.size + 1))) ρ2 := Ext.laid n0
  have n2 : upd H2 s2.heap.objs.size (.own (s2.heap.objs.size + 1)) (s2.heap.objs.size + 1) = none := by rw [upd_ne (Ne.symm ne)]; exact n1
  obtain ⟨sp, xp⟩ := sl.push (o := .ins Cc s2.heap.objs.size []) (ob := .ins c []) n2 (.ins upd_same hcl .nil)
  have at_ : (ρ2 ++ [s2.heap.objs.size + 1])[S2.length]? = some (s2.heap.objs.size + 1) := by
    rw [List.getElem?_append_right (by rw [sr2.len]; exact Nat.le_refl _), sr2.len]
    simp
  have x4 := xl.trans xp
  have rself : VR G (upd (upd H2 s2.heap.objs.size (.own (s2.heap.objs.size + 1))) (s2.heap.objs.size + 1) (.ins Cc s2.heap.objs.size [])) (ρ2 ++ [s2.heap.objs.size + 1]) B (.ref S2.length) (.ref (s2.heap.objs.size + 1)) := .ref at_
  obtain ⟨us', bt, pr, hl⟩ := hb { s2 with heap := (s2.heap.push PySem.W.emptyDict).push (PySem.W.instObj Cc s2.heap.objs.size) } (Value.ref (s2.heap.objs.size + 1) :: us) ws (by rw [← hK]; exact I3.kIn) (by rw [List.length_cons, l1]) l2
  obtain ⟨vs', rv', rd'⟩ := PermR.vals (us := Value.ref (s2.heap.objs.size + 1) :: us ++ ws) (vs := V.ref (s2.heap.objs.size + 1) :: vs ++ zs) (ds := D.ref S2.length :: (d1 ++ d2)) ((show Vals (V.ref (s2.heap.objs.size + 1) :: vs) (Value.ref (s2.heap.objs.size + 1) :: us) from .cons rfl rv).append rz) (.cons rself ((r1.append r2).ext sr2 x4)) pr e4
  refine wpAny_call (make_map (f := fa) I2.kIn M.makes M.init (beq_iff_eq.mp M.fn) (codeAny_mono (F.run _ X.stack _ _ ⟨Value.ref (s2.heap.objs.size + 1) :: us, kn.zip ws⟩ us' vs' (fun v H3 => v = .non ∧ Q (.ref (s2.heap.objs.size + 1)) H3) (fun _ _ _ => False) (hr.make Cc us (kn.zip ws)) (by rw [make_guards]; exact hg)
    (I3.env0.make Cc us (kn.zip ws)) bt rv' ⟨_, B, _, ds, .non, S', sp, rd', e5, fun v H3 ρ3 x5 s5 r5 => ?_⟩) fun r s' hq' => ?_))
  · cases r5
    exact ⟨rfl, q _ _ _ ((x2.trans x4).trans x5) s5 (.ref ((x5.keeps sp).ref _ _ at_))⟩
  · cases r with
    | error e => exact False.elim hq'
    | ok fl =>
      cases fl with
      | ret u =>
        obtain ⟨v, H', I4, rvv, ev, q3⟩ := I3.after hq'
        subst ev
        exact ⟨rvv, ⟨V.ref (s2.heap.objs.size + 1), H', I4, rfl, q3⟩⟩
      | next => exact False.elim hq'
      | brk => exact False.elim hq'
      | cont => exact False.elim hq'
/-! ### methods -/
/-- how a method's call is written out, on one line -/
theorem meth_form {o : Expr} {m : Str} {apos : Pos} {env : PySem.Env} (hs : noSup o = true) (hl : (apos.endLine == pos.line) = true) (hst : args.all notStar = true) (hkn : kws.map Keyword.arg = kn.map some) (hn : args.length + kws.length < 29) :
    eval (.Call (.Attribute o m apos) args kws pos) env = (do
      let ov ← eval o env
      standAt apos.atName
      let (f, first) ← holding [ov] (getMethod ov m (do return (← importBound o env).getD true))
      callWith pos f first (backTo pos (starEach args env)) (backToKw pos (keywordEach kws env))) := by
  have hf : methodCallForm (args.length + kws.length) (backTo pos (starEach args env)) (backToKw pos (keywordEach kws env)) = true := by
    obtain ⟨k1, k2, k3⟩ := kw_all (pos := pos) (env := env) hkn
    have h1 := star_any (pos := pos) (env := env) hst
    have h2 : (backTo pos (starEach args env)).all (!·.1) = true := by
      rw [List.any_eq_false] at h1
      rw [List.all_eq_true]
      intro x hx
      have := h1 x hx
      simpa using this
    unfold methodCallForm
    rw [h2, k1]
    have h3 : (if (backToKw pos (keywordEach kws env)).isEmpty = true then 0 else 1) ≤ 1 := by split <;> omega
    simp only [Bool.true_and, decide_eq_true_eq]
    omega
  show (do
    let ov ← attributeBase o m env (eval o env)
    standAt apos.atName
    methodCall o m apos pos env ov (args.length + kws.length) (backTo pos (starEach args env)) (backToKw pos (keywordEach kws env))) = _
  rw [base_of hs]
  unfold methodCall
  rw [hf]
  unfold calleeOf methodCallPos
  simp only [hl, Bool.not_true, Bool.false_or, if_true]
  first | rfl | simp only [pure_bind]
theorem sim_meth {c : Nat} {m : Str} {o : Expr} {eo : E} {apos : Pos} (hK : X.K = G.K) (hcl : ∀ Cc, G.cl c = some Cc → Cls X.K Cc ∧ Meth X.K Cc m fa) (F : FnG X.prog X.w X.K X.mg X.base n fa fd ps (spOf G (C.call f))) (hr : Room n X.A) (hg : X.A.guards = some []) (hb : CB G fd ps (args.length + 1) kn perm)
    (ho : PE X o (tE G C eo)) (ha : PA X args (tEs G C es)) (hkw : PK X kws (tEs G C ks)) (hs : noSup o = true) (hl : (apos.endLine == pos.line) = true) (hst : args.all notStar = true) (hkn : kws.map Keyword.arg = kn.map some) (hn : args.length + kws.length < 29) (la : args.length = es.len) (lk : kn.length = ks.len) :
    PE X (.Call (.Attribute o m apos) args kws pos) (tE G C (.meth c f m eo es ks perm)) := by
  refine ⟨fun pins s0 σ H Q I w => ?_⟩
  obtain ⟨env, S, ρ, B, B0, d, S', s, er, ev, q⟩ := w
  rw [evE] at ev
  obtain ⟨⟨d0, S0⟩, ⟨i, fs⟩, e0, ei, e3⟩ := bind2 ev
  obtain ⟨h1, h2⟩ := refI_of ei
  have h1 : d0 = .ref i := h1
  subst h1
  have el : fs.lookup m = none := by
    cases hq : fs.lookup m with
    | none => rfl
    | some z =>
      have e3' : (match fs.lookup m with | none => _ | some _ => none) = some (d, S') := e3
      rw [hq] at e3'
      cases e3'
  have e4 : (evEs C es env S0).bind (fun p => (evEs C ks env p.2).bind fun q => (permA (D.ref i :: (p.1 ++ q.1)) perm).bind fun ds => C.call f ds q.2) = some (d, S') := by
    have e3' : (match fs.lookup m with | none => (evEs C es env S0).bind (fun p => (evEs C ks env p.2).bind fun q => (permA (D.ref i :: (p.1 ++ q.1)) perm).bind fun ds => C.call f ds q.2) | some _ => none) = some (d, S') := e3
    rw [el] at e3'
    exact e3'
  obtain ⟨⟨d1, S1⟩, ⟨d2, S2⟩, e1, e2, e5⟩ := bind2 e4
  obtain ⟨ds, e6, e7⟩ := Option.bind_eq_some_iff.mp e5
  refine PySem.W.methodCall_KW (pl := (do return (← importBound o X.env).getD true)) (thn (ho.run pins s0 σ H (fun v H1 => ∃ ρ1, Ext H ρ H1 ρ1 ∧ SR G H1 ρ1 B S0 ∧ VR G H1 ρ1 B (.ref i) v) I ⟨env, S, ρ, B, B0, _, S0, s, er, e0, fun v H1 ρ1 x1 s1 r1 => ⟨ρ1, x1, s1, r1⟩⟩) fun ov s1 ⟨v, H1, I1, rv, ρ1, x1, sr1, r1⟩ => ?_) (meth_form hs hl hst hkn hn)
  obtain ⟨ad, Cc, dx, gs, rfl, _, g1, g2, g3⟩ := sr1.ins h2 r1
  cases (show ov = Value.ref ad from rv)
  obtain ⟨cl, mt⟩ := hcl Cc g2
  refine getmeth_ok I1 g1 cl mt (g3.none el) ?_
  refine cw_args mt.kp ha hkw hst hkn la lk I1 sr1 (er.ext s x1) e1 e2 fun us ws vs zs s2 H2 ρ2 I2 x2 sr2 rvs rz r1' r2' l1 l2 => ?_
  have rself := r1.ext sr1 x2
  obtain ⟨us', bt, pr, hlen⟩ := hb s2 (Value.ref ad :: us) ws (by rw [← hK]; exact I2.kIn) (by rw [List.length_cons, l1]) l2
  obtain ⟨vs', rv', rd'⟩ := PermR.vals (us := Value.ref ad :: us ++ ws) (vs := V.ref ad :: vs ++ zs) (ds := D.ref i :: (d1 ++ d2)) ((show Vals (V.ref ad :: vs) (Value.ref ad :: us) from .cons rfl rvs).append rz) (.cons rself (r1'.append r2')) pr e6
  refine wpAny_call (codeAny_mono (F.run X.A X.stack s2 H2 ⟨Value.ref ad :: us, kn.zip ws⟩ us' vs' Q (fun _ _ _ => False) hr hg I2.env0 bt rv' ⟨ρ2, B, S2, ds, d, S', sr2, rd', e7, fun v H3 ρ3 x3 s3 r3 => q _ _ _ ((x1.trans x2).trans x3) s3 r3⟩) fun r s' hq => ?_)
  cases r with
  | error e => exact False.elim hq
  | ok fl =>
    cases fl with
    | ret u => exact I2.after hq
    | next => exact False.elim hq
    | brk => exact False.elim hq
    | cont => exact False.elim hq
end
end Wf
set_option Elab.async false
set_option linter.all false
namespace Wf
open PySem PySem.Spec PyProof.Rows L2
variable {G : Cr} {C : Orc}
section
variable {X : Cx} {a b c d : Expr} {ea eb ec ed : E} {pos : Pos} {ta tb tc td : TE}
/-! ### a op1 b op2 c op3 d -/
def tChain3 (r1 r2 r3 : R2) (ta tb tc td : TE) : TE := fun σ H Q => ta σ H fun x H1 => tb σ H1 fun y H2 => r1 x y H2 fun z H3 => ∃ k, z = .bl k ∧
  (if k = true then tc σ H3 fun u H4 => r2 y u H4 fun z H5 => ∃ k, z = .bl k ∧ (if k = true then td σ H5 fun v H6 => r3 u v H6 Q else Q (.bl false) H5) else Q (.bl false) H3)
theorem pe_chain3 {o1 o2 o3 : CmpOp} {r1 r2 r3 : R2} (h1 : OpR X (compareOp o1) r1) (h2 : OpR X (compareOp o2) r2) (h3 : OpR X (compareOp o3) r3) (ha : PE X a ta) (hb : PE X b tb) (hc : PE X c tc) (hd : PE X d td)
    (hm : lastMarks [o1, o2, o3] [b, c, d] = false) : PE X (.Compare a [o1, o2, o3] [b, c, d] pos) (tChain3 r1 r2 r3 ta tb tc td) := by
  refine ⟨fun pins s σ H Q I h => ?_⟩
  refine Compare_chain (thn (ha.run pins s σ H _ I h) fun v s1 ⟨x, H1, I1, rx, q1⟩ => chain_link (thn (hb.run pins s1 σ H1 _ I1 q1) fun u s2 ⟨y, H2, I2, ry, q2⟩ =>
    thn (h1 pins s2 σ H2 x y v u _ I2 rx ry q2) fun w1 s3 ⟨z, H3, I3, rz, k, e, q3⟩ => ?_)) hm
  subst e
  cases rz
  refine wpAny_truthy_bool ?_
  cases k with
  | false => exact ite_ff ⟨.bl false, H3, I3, rfl, q3⟩
  | true =>
    refine ite_tt (chain_link (thn (hc.run pins s3 σ H3 _ I3 q3) fun u2 s4 ⟨y2, H4, I4, ry2, q4⟩ => thn (h2 pins s4 σ H4 y y2 u u2 _ I4 ry ry2 q4) fun w2 s5 ⟨z, H5, I5, rz, k, e, q5⟩ => ?_))
    subst e
    cases rz
    refine wpAny_truthy_bool ?_
    cases k with
    | false => exact ite_ff ⟨.bl false, H5, I5, rfl, q5⟩
    | true => exact ite_tt (chain_last (thn (hd.run pins s5 σ H5 _ I5 q5) fun u3 s6 ⟨y3, H6, I6, ry3, q6⟩ => h3 pins s6 σ H6 y2 y3 u2 u3 Q I6 ry2 ry3 q6))
theorem pt_chain3 {o1 o2 o3 : CmpOp} {r1 r2 r3 : R2} (h1 : OpR X (compareOp o1) r1) (h2 : OpR X (compareOp o2) r2) (h3 : OpR X (compareOp o3) r3) (ha : PE X a ta) (hb : PE X b tb) (hc : PE X c tc) (hd : PE X d td)
    (hm : lastMarks [o1, o2, o3] [b, c, d] = false) : PT X (.Compare a [o1, o2, o3] [b, c, d] pos) (tTest (tChain3 r1 r2 r3 ta tb tc td)) := by
  refine ⟨fun pins s σ H Q I h => ?_⟩
  refine isTrue_chain (thn (ha.run pins s σ H _ I h) fun v s1 ⟨x, H1, I1, rx, q1⟩ => test_link (thn (hb.run pins s1 σ H1 _ I1 q1) fun u s2 ⟨y, H2, I2, ry, q2⟩ =>
    thn (h1 pins s2 σ H2 x y v u _ I2 rx ry q2) fun w1 s3 ⟨z, H3, I3, rz, k, e, q3⟩ => ?_)) hm
  subst e
  cases rz
  refine wpAny_truthy_bool ?_
  cases k with
  | false =>
    obtain ⟨k', e', q'⟩ := q3
    cases e'
    exact ite_ff ⟨H3, I3, q'⟩
  | true =>
    refine ite_tt (test_link (thn (hc.run pins s3 σ H3 _ I3 q3) fun u2 s4 ⟨y2, H4, I4, ry2, q4⟩ => thn (h2 pins s4 σ H4 y y2 u u2 _ I4 ry ry2 q4) fun w2 s5 ⟨z, H5, I5, rz, k, e, q5⟩ => ?_))
    subst e
    cases rz
    refine wpAny_truthy_bool ?_
    cases k with
    | false =>
      obtain ⟨k', e', q'⟩ := q5
      cases e'
      exact ite_ff ⟨H5, I5, q'⟩
    | true =>
      refine ite_tt (test_last (thn (hd.run pins s5 σ H5 _ I5 q5) fun u3 s6 ⟨y3, H6, I6, ry3, q6⟩ => thn (h3 pins s6 σ H6 y2 y3 u2 u3 _ I6 ry2 ry3 q6) fun w3 s7 ⟨z2, H7, I7, r7, k2, e2, q7⟩ => ?_))
      subst e2
      cases r7
      exact wpAny_truthy_bool ⟨H7, I7, q7⟩
theorem ch3_reads {o1 o2 o3 : CmpOp} {σ : L2.St} {H : Hp} {Q : VK} : tE G C (.ch3 o1 o2 o3 ea eb ec ed) σ H Q → tChain3 (rSem2 G fun a b => (semCmp o1 a b).map D.bl) (rSem2 G fun a b => (semCmp o2 a b).map D.bl) (rSem2 G fun a b => (semCmp o3 a b).map D.bl) (tE G C ea) (tE G C eb) (tE G C ec) (tE G C ed) σ H Q := fun ⟨env, S, ρ, B, B0, d, S', s, er, ev, q⟩ => by
  rw [evE] at ev
  obtain ⟨⟨d1, S1⟩, ⟨d2, S2⟩, e1, e2, e3⟩ := bind2 ev
  refine ⟨env, S, ρ, B, B0, d1, S1, s, er, e1, fun x H1 ρ1 x1 s1 r1 => ⟨env, S1, ρ1, B, B0, d2, S2, s1, er.ext s x1, e2, fun y H2 ρ2 x2 s2 r2 => ?_⟩⟩
  obtain ⟨k, k1, e3⟩ := Option.bind_eq_some_iff.mp e3
  refine ⟨ρ2, B, S2, _, _, _, s2, ((PR.of r1).ext s1 x2).top s2, (PR.of r2).top s2, congrArg (Option.map D.bl) k1, fun v H3 x3 s3 r3 => ?_⟩
  cases r3
  refine ⟨k, rfl, ?_⟩
  cases k with
  | false =>
    cases e3
    exact iteF (q _ _ _ ((x1.trans x2).trans x3) s3 (.bl false))
  | true =>
    rw [if_pos rfl] at e3
    obtain ⟨⟨d3, S3⟩, e4, e5⟩ := Option.bind_eq_some_iff.mp e3
    obtain ⟨k, k2, e5⟩ := Option.bind_eq_some_iff.mp e5
    refine iteT ⟨env, S2, ρ2, B, B0, d3, S3, s3, ((er.ext s x1).ext s1 x2).ext s2 x3, e4, fun w H4 ρ4 x4 s4 r4 => ?_⟩
    refine ⟨ρ4, B, S3, _, _, _, s4, ((((PR.of r2).ext s2 x3).ext s3 x4)).top s4, (PR.of r4).top s4, congrArg (Option.map D.bl) k2, fun v H5 x5 s5 r5 => ?_⟩
    cases r5
    refine ⟨k, rfl, ?_⟩
    cases k with
    | false =>
      cases e5
      exact iteF (q _ _ _ ((((x1.trans x2).trans x3).trans x4).trans x5) s5 (.bl false))
    | true =>
      rw [if_pos rfl] at e5
      obtain ⟨⟨d4, S4⟩, e6, e7⟩ := Option.bind_eq_some_iff.mp e5
      obtain ⟨z, e8, e9⟩ := Option.map_eq_some_iff.mp e7
      cases e9
      refine iteT ⟨env, S3, ρ4, B, B0, d4, S4, s5, ((((er.ext s x1).ext s1 x2).ext s2 x3).ext s3 x4).ext s4 x5, e6, fun w H6 ρ6 x6 s6 r6 => ?_⟩
      exact ⟨ρ6, B, S4, _, _, _, s6, (((PR.of r4).ext s4 x5).ext s5 x6).top s6, (PR.of r6).top s6, congrArg (Option.map D.bl) e8, fun v H7 x7 s7 r7 => q _ _ _ ((((((x1.trans x2).trans x3).trans x4).trans x5).trans x6).trans x7) s7 r7⟩
theorem sim_ch3 (hK : X.K = G.K) (hu : X.A.units + 66 < cLine) {o1 o2 o3 : CmpOp} (ha : PE X a (tE G C ea)) (hb : PE X b (tE G C eb)) (hc : PE X c (tE G C ec)) (hd : PE X d (tE G C ed)) (hm : lastMarks [o1, o2, o3] [b, c, d] = false) : PE X (.Compare a [o1, o2, o3] [b, c, d] pos) (tE G C (.ch3 o1 o2 o3 ea eb ec ed)) :=
  impE (pe_chain3 (cmp_ok hK hu o1) (cmp_ok hK hu o2) (cmp_ok hK hu o3) ha hb hc hd hm) fun _ _ _ h => ch3_reads h
theorem test_ch3 (hK : X.K = G.K) (hu : X.A.units + 66 < cLine) {o1 o2 o3 : CmpOp} (ha : PE X a (tE G C ea)) (hb : PE X b (tE G C eb)) (hc : PE X c (tE G C ec)) (hd : PE X d (tE G C ed)) (hm : lastMarks [o1, o2, o3] [b, c, d] = false) : PT X (.Compare a [o1, o2, o3] [b, c, d] pos) (tT G C (.ch3 o1 o2 o3 ea eb ec ed)) :=
  impT (pt_chain3 (cmp_ok hK hu o1) (cmp_ok hK hu o2) (cmp_ok hK hu o3) ha hb hc hd hm) fun _ _ _ h => ch3_reads (toE h)
end
end Wf
set_option Elab.async false
set_option linter.all false
namespace Wf
open PySem L2
variable {G : Cr} {C : Orc}
section
variable {H H' : Hp} {ρ ρ' B B0 B' B0' : List Addr} {σ : St} {env : Env}
/-- as ER.keep; nothing is asked of what others own -/
theorem ER.keepN (t : ER G H ρ B B0 σ env) (k : Keep G H ρ B H' ρ' B') (ko : ∀ a u, a ∈ B → a ∉ B0 → H a = some u → H' a = some u) (kb : ∀ a ∈ B, a ∈ B') (kn : ∀ a ∈ B, a ∉ B0 → a ∉ B0') : ER G H' ρ' B' B0' σ env := by
  refine ⟨t.len, fun i x e => ?_, t.apart⟩
  cases t.sl i x e with
  | un => exact .un
  | fz e1 r => exact .fz e1 (VR.mono k _ _ r)
  | ol e1 hb hn hh r => exact .ol e1 (kb _ hb) (kn _ hb hn) (ko _ _ hb hn hh) (VRs.mono k _ _ r)
  | od e1 hb hn hh r => exact .od e1 (kb _ hb) (kn _ hb hn) (ko _ _ hb hn hh) (VRk.mono k _ _ r)
end
section
variable {X : Cx} {own own1 : List Nat} {t t1 : T} {it it1 : It} {c c1 : Oe} {ex : E}
theorem lc2_reads (hsl : ∀ i ∈ t.sl, i ∈ own) (hsl1 : ∀ i ∈ t1.sl, i ∈ own1) {σ : St} {H : Hp} {Q : VK} (w : tF G C (.lc2 own own1 t it c t1 it1 c1 ex) σ H Q) :
    tLc2 (tI G C it) (tG G t) (tC G C c) (tI G C it1) (tG G t1) (tC G C c1) (tE G C ex) own own1 σ H Q := by
  obtain ⟨env, S, ρ, B, B0, d, S', s, er, ev, q⟩ := w
  rw [evE] at ev
  obtain ⟨⟨ds, S1⟩, e1, e2⟩ := Option.bind_eq_some_iff.mp ev
  obtain ⟨⟨out, S2⟩, e3, e4⟩ := Option.map_eq_some_iff.mp e2
  cases e4
  generalize hf : (fun (d : D) (acc : List D) (S : Sto) => (asgT t d (wipeS env own)).bind fun env' => (evC C c env' S).bind fun q => if q.1 then (evI C it1 env' q.2).bind fun p1 =>
          lcGo (fun d S => (asgT t1 d (wipeS env' own1)).bind fun env2 => (evC C c1 env2 S).bind fun q => if q.1 then (evE C ex env2 q.2).map fun r => (some r.1, r.2) else some (none, q.2)) p1.1 acc p1.2
        else some (acc, q.2)) = f at e3
  refine ⟨env, S, ρ, B, B0, ds, S1, s, er, e1, fun J H1 ρ1 x1 s1 iok Dn hD => ?_⟩
  have nB : Dn ∉ B := fun z => (s1.bt Dn z).1 hD
  have er1 := er.ext s x1
  let Pv : Nat → Hp → Prop := fun i H => ∃ S ρ acc vs, Ext H1 ρ1 (era H Dn) ρ ∧ SR G H ρ (Dn :: B) S ∧ H Dn = some (.lst vs) ∧ VRs G H ρ (Dn :: B) acc vs ∧ lcAll f (ds.drop i) acc S = some (out, S2)
  refine ⟨fun i m H => m = ds.length - i ∧ i ≤ ds.length ∧ Pv i H, ⟨ds.length, rfl, Nat.zero_le _, S1, ρ1, [], [], ?_, s1.ban hD, upd_same, .nil, e3⟩, ?_⟩
  · rw [era_upd]
    have : era H1 Dn = H1 := by
      funext a
      by_cases z : a = Dn
      · rw [z, era_same, hD]
      · exact era_ne z
    rw [this]
    exact Ext.refl
  · rintro i m Hc ⟨rfl, hi, Sc, ρc, acc, vs, xc, sc, hat, racc, go⟩
    have mo : Mut (Hc Dn) := by rw [hat]; trivial
    have kc : Keep G H1 ρ1 B Hc ρc (Dn :: B) := (xc.keeps s1).trans (keep_reban mo)
    have kk0 : ∀ a o, H1 a = some o → a ∉ ρ1 → Hc a = some o := fun a o e n => by
      have z := xc.keep a o e n
      have ne : a ≠ Dn := ne_of_none e hD
      rwa [era_ne ne] at z
    have kk : ∀ a o, H1 a = some o → a ∉ ρ1 → a ∉ B → Hc a = some o := fun a o e n _ => kk0 a o e n
    by_cases hlt : i < ds.length
    · refine .inr ⟨iok.go Hc ρc _ kk kc i hlt, Pv (i + 1), fun H' pv => ⟨ds.length - (i + 1), by omega, rfl, hlt, pv⟩, fun x H3 y => ?_⟩
      obtain ⟨x3, s3, r3⟩ := iok.yld Hc ρc _ Sc kk kc sc i ds[i] (List.getElem?_eq_getElem hlt) x H3 y
      rw [List.drop_eq_getElem_cons hlt] at go
      rw [lcAll] at go
      cases hfd : f ds[i] acc Sc with
      | none => rw [hfd] at go; cases go
      | some fr =>
        rw [hfd] at go
        obtain ⟨acc1, Sn⟩ := fr
        have go : lcAll f (ds.drop (i + 1)) acc1 Sn = some (out, S2) := go
        rw [← hf] at hfd
        obtain ⟨env', ⟨b, S4⟩, a1, a2, a3⟩ := bind2 hfd
        have erc : ER G Hc ρc (Dn :: B) (Dn :: B0) (wipe σ own) (wipeS env own) := (er1.keepN kc (fun a u hb _ h => kk0 a u h (s1.bt a hb).2) (fun a h => List.mem_cons_of_mem _ h) (fun a hb hn z => by
          rcases List.mem_cons.mp z with z | z
          · exact nB (z ▸ hb)
          · exact hn z)).wipe own
        refine ⟨wipeS env own, Sc, ρc, Dn :: B, Dn :: B0, ds[i], env', s3, erc.ext sc x3, r3, a1, fun σ5 H5 x5 s5 er5 o5 => ⟨wipe_off o5 hsl, env', Sc, ρc, Dn :: B, Dn :: B0, b, S4, s5, er5, a2, fun H6 ρ6 x6 s6 => ?_⟩⟩
        have x36 := (x3.trans x5).trans x6
        have nD : Dn ∉ ρc := (sc.bt Dn List.mem_cons_self).2
        cases b with
        | false =>
          refine iteF ?_
          cases a3
          have at6 : H6 Dn = some (.lst vs) := x36.keep _ _ hat nD
          exact ⟨_, ρ6, _, vs, xc.trans (x36.era (by rw [hat]; simp) nD), s6, at6, racc.ext sc x36, go⟩
        | true =>
          obtain ⟨⟨ds1, S7⟩, a4, a5⟩ := Option.bind_eq_some_iff.mp (show (evI C it1 env' S4).bind _ = _ from a3)
          generalize hg : (fun (d : D) (S : Sto) => (asgT t1 d (wipeS env' own1)).bind fun env2 => (evC C c1 env2 S).bind fun q => if q.1 then (evE C ex env2 q.2).map fun r => (some r.1, r.2) else some (none, q.2)) = gg at a5
          have a5 : lcGo gg ds1 acc S7 = some (acc1, Sn) := a5
          refine iteT ⟨env', S4, ρ6, Dn :: B, Dn :: B0, ds1, S7, s6, er5.ext s5 x6, a4, fun J1 H7 ρ7 x7 s7 iok1 => ?_⟩
          have er7 := (er5.ext s5 x6).ext s6 x7
          have x37 := x36.trans x7
          let Pw : Nat → Hp → Prop := fun j H => ∃ S ρ acc vs, Ext H1 ρ1 (era H Dn) ρ ∧ SR G H ρ (Dn :: B) S ∧ H Dn = some (.lst vs) ∧ VRs G H ρ (Dn :: B) acc vs ∧ MkOk G ⟨H7, ρ7, Dn :: B⟩ H ρ (Dn :: B) ∧ (∀ a u, a ∈ B → H7 a = some u → H a = some u) ∧ lcGo gg (ds1.drop j) acc S = some (acc1, Sn)
          refine ⟨fun j k H => k = ds1.length - j ∧ j ≤ ds1.length ∧ Pw j H, ⟨ds1.length, rfl, Nat.zero_le _, S7, ρ7, acc, vs, xc.trans (x37.era (by rw [hat]; simp) nD), s7, x37.keep _ _ hat nD, racc.ext sc x37, MkOk.start, fun _ _ _ h => h, a5⟩, ?_⟩
          rintro j k He ⟨rfl, hj, Se, ρe, ace, vse, xe, se, hate, race, mk, ko, goe⟩
          have nDe : Dn ∉ ρe := (se.bt Dn List.mem_cons_self).2
          by_cases hlt1 : j < ds1.length
          · refine .inr ⟨iok1.go He ρe _ mk.kept mk.keep j hlt1, Pw (j + 1), fun H' pv => ⟨ds1.length - (j + 1), by omega, rfl, hlt1, pv⟩, fun x1' H8 y8 => ?_⟩
            obtain ⟨x8, s8, r8⟩ := iok1.yld He ρe _ Se mk.kept mk.keep se j ds1[j] (List.getElem?_eq_getElem hlt1) x1' H8 y8
            rw [List.drop_eq_getElem_cons hlt1] at goe
            rw [lcGo] at goe
            cases hgd : gg ds1[j] Se with
            | none => rw [hgd] at goe; cases goe
            | some fr =>
              rw [hgd] at goe
              rw [← hg] at hgd
              obtain ⟨env2, ⟨b2, S9⟩, b1, b2', b3⟩ := bind2 hgd
              have ere : ER G He ρe (Dn :: B) (Dn :: B0) (wipe σ5 own1) (wipeS env' own1) := (er7.keepN mk.keep (fun a u hb hn h => by
                rcases List.mem_cons.mp hb with z | z
                · exact absurd (z ▸ List.mem_cons_self) hn
                · exact ko a u z h) (fun a h => h) (fun a _ hn => hn)).wipe own1
              refine ⟨wipeS env' own1, Se, ρe, Dn :: B, Dn :: B0, ds1[j], env2, s8, ere.ext se x8, r8, b1, fun σ9 H9 x9 s9 er9 o9 => ⟨wipe_off o9 hsl1, env2, Se, ρe, Dn :: B, Dn :: B0, b2, S9, s9, er9, b2', fun H10 ρ10 x10 s10 => ?_⟩⟩
              have x810 := (x8.trans x9).trans x10
              cases b2 with
              | false =>
                refine iteF ?_
                cases b3
                exact ⟨S9, ρ10, ace, vse, xe.trans (x810.era (by rw [hate]; simp) nDe), s10, x810.keep _ _ hate nDe, race.ext se x810, mk.ext se x810, fun a u hb h => x810.keep _ _ (ko a u hb h) (se.bt a (List.mem_cons_of_mem _ hb)).2, goe⟩
              | true =>
                refine iteT ⟨env2, S9, ρ10, Dn :: B, Dn :: B0, ?_⟩
                obtain ⟨⟨dv, S11⟩, b4, b5⟩ := Option.map_eq_some_iff.mp (show (evE C ex env2 S9).map _ = _ from b3)
                cases b5
                refine ⟨dv, S11, s10, er9.ext s9 x10, b4, fun yv H12 ρ12 x12 s12 r12 => ?_⟩
                have x812 := x810.trans x12
                have at12 : H12 Dn = some (.lst vse) := x812.keep _ _ hate nDe
                have mo12 : Mut (H12 Dn) := by rw [at12]; trivial
                have goe : (if ace.length < sizeLine then lcGo gg (ds1.drop (j + 1)) (ace ++ [dv]) S11 else none) = some (acc1, Sn) := goe
                split at goe
                · rename_i hz
                  refine ⟨vse, at12, by rw [race.length]; exact hz, S11, ρ12, ace ++ [dv], vse ++ [yv], ?_, s12.own List.mem_cons_self mo12, upd_same, ?_, (mk.ext se x812).write List.mem_cons_self mo12, fun a u hb h => ?_, goe⟩
                  · rw [era_upd]
                    exact xe.trans (x812.era (by rw [hate]; simp) nDe)
                  · exact VRs.mono (keep_own List.mem_cons_self mo12) _ _ ((race.ext se x812).append (.cons r12 .nil))
                  · rw [upd_ne (fun z : a = Dn => nB (z ▸ hb))]
                    exact x812.keep _ _ (ko a u hb h) (se.bt a (List.mem_cons_of_mem _ hb)).2
                · cases goe
          · have e : j = ds1.length := by omega
            subst e
            rw [List.drop_length, lcGo] at goe
            cases goe
            exact .inl ⟨iok1.stop He ρe _ mk.kept mk.keep, _, ρe, _, vse, xe, se, hate, race, go⟩
    · have e : i = ds.length := by omega
      subst e
      rw [List.drop_length, lcAll] at go
      cases go
      refine .inl ⟨iok.stop Hc ρc _ kk kc, ?_⟩
      have f := q (era Hc Dn) ρc (x1.trans xc) (sc.unban nB mo)
      have fin := f.new Dn _ era_same (.lst (VRs.mono (keep_unban mo) _ _ racc))
      rw [upd_era hat] at fin
      exact fin
end
end Wf
set_option Elab.async false
set_option linter.all false
namespace Wf
open PySem L2
variable {G : Cr} {C : Orc}
/-! ### x, y = e1, e2 where some of the values are owned from then on -/
/-- what one step leaves, for all that was known -/
structure Stp (G : Cr) (H : Hp) (ρ B : List Addr) (H' : Hp) (ρ' B' : List Addr) : Prop where
  ext : Ext H ρ H' ρ'
  sub : ∀ a ∈ B, a ∈ B'
  new : ∀ a ∈ B', a ∉ B → H a = none
  mrk : ∀ m, MkOk G m H ρ B → MkOk G m H' ρ' B'
  er : ∀ B0 σ env, ER G H ρ B B0 σ env → ER G H' ρ' B' B0 σ env
section
variable {H H1 H2 : Hp} {ρ ρ1 ρ2 B B1 B2 : List Addr} {S S1 : Sto} {p : Addr} {o : HO}
theorem Stp.ext1 (s : SR G H ρ B S) (x : Ext H ρ H1 ρ1) : Stp G H ρ B H1 ρ1 B := ⟨x, fun _ h => h, fun _ h n => absurd h n, fun _ k => k.ext s x, fun _ _ _ t => t.ext s x⟩
theorem Stp.ban1 (s : SR G H ρ B S) (h : H p = none) : Stp G H ρ B (upd H p o) ρ (p :: B) := by
  refine ⟨Ext.laid h, fun a ha => List.mem_cons_of_mem _ ha, fun a ha n => ?_, fun _ k => k.ban s h, fun _ _ _ t => t.ban s h⟩
  rcases List.mem_cons.mp ha with z | z
  · rw [z]; exact h
  · exact absurd z n
theorem Stp.trans (a : Stp G H ρ B H1 ρ1 B1) (b : Stp G H1 ρ1 B1 H2 ρ2 B2) : Stp G H ρ B H2 ρ2 B2 := by
  refine ⟨a.ext.trans b.ext, fun x h => b.sub x (a.sub x h), fun x h n => ?_, fun m k => b.mrk m (a.mrk m k), fun _ _ _ t => b.er _ _ _ (a.er _ _ _ t)⟩
  by_cases z : x ∈ B1
  · exact a.new x z n
  · have q := b.new x h z
    exact Classical.byContradiction fun w => a.ext.there x w q
theorem Stp.keep (a : Stp G H ρ B H1 ρ1 B1) : Keep G H ρ B H1 ρ1 B1 := (a.mrk ⟨H, ρ, B⟩ MkOk.start).keep
end
/-- a slot to be, its value: L the addresses owned ahead of it -/
inductive SlV (G : Cr) (H : Hp) (ρ B L : List Addr) : Sl → V → List Addr → Prop
  | fz {d : D} {v : V} : VR G H ρ B d v → SlV G H ρ B L (.fz d) v L
  | ol {a : Addr} {ds : List D} {vs : List V} : a ∈ B → a ∉ L → H a = some (.lst vs) → VRs G H ρ B ds vs → SlV G H ρ B L (.ol ds) (.ref a) (a :: L)
  | od {a : Addr} {ds : List (Key × D)} {vs : List (Key × V)} : a ∈ B → a ∉ L → H a = some (.dK vs) → VRk G H ρ B ds vs → SlV G H ρ B L (.od ds) (.ref a) (a :: L)
inductive MR (G : Cr) (H : Hp) (ρ B : List Addr) : List Addr → List (Nat × Sl) → List V → Prop
  | nil {L : List Addr} : MR G H ρ B L [] []
  | cons {L L' : List Addr} {i : Nat} {x : Sl} {v : V} {l : List (Nat × Sl)} {vs : List V} : SlV G H ρ B L x v L' → MR G H ρ B L' l vs → MR G H ρ B L ((i, x) :: l) (v :: vs)
def tMs (G : Cr) (C : Orc) (ms : Ms) : TA := fun σ H Q => ∃ env S ρ B B0 l S', SR G H ρ B S ∧ ER G H ρ B B0 σ env ∧ evMs C ms env S = some (l, S') ∧ ∀ vs H' ρ' B', Stp G H ρ B H' ρ' B' → SR G H' ρ' B' S' → MR G H' ρ' B' B l vs → Q vs H'
section
variable {X : Cx} {e : Expr} {es : List Expr} {ex : E} {ms : Ms} {pos : Pos} {H H' : Hp} {ρ ρ' B B' B0 L L' : List Addr} {σ : St} {env : Env} {S S' : Sto}
theorem simM_nil : PA X [] (tMs G C .nil) := impA pa_nil fun σ H Q ⟨env, S, ρ, B, B0, l, S', s, er, ev, q⟩ => by
  rw [evMs] at ev
  cases ev
  exact q _ _ _ _ (Stp.ext1 s Ext.refl) s .nil
theorem simM_val {i : Nat} (h : PE X e (tE G C ex)) (hr : PA X es (tMs G C ms)) (hs : starEach (e :: es) X.env = (false, eval e X.env) :: starEach es X.env) : PA X (e :: es) (tMs G C (.cons false i ex ms)) :=
  impA (pa_cons h hr hs) fun σ H Q ⟨env, S, ρ, B, B0, l, S', s, er, ev, q⟩ => by
    rw [evMs] at ev
    obtain ⟨⟨d, S1⟩, x, e1, e2, e3⟩ := bind2 ev
    obtain ⟨⟨l', S2⟩, e4, e5⟩ := Option.map_eq_some_iff.mp e3
    cases e5
    have e2 : some (Sl.fz d) = some x := e2
    cases e2
    refine ⟨env, S, ρ, B, B0, d, S1, s, er, e1, fun v H1 ρ1 x1 s1 r1 => ⟨env, S1, ρ1, B, B0, l', S2, s1, er.ext s x1, e4, fun vs H2 ρ2 B2 st s2 r2 => ?_⟩⟩
    exact q _ _ _ _ ((Stp.ext1 s x1).trans st) s2 (.cons (.fz (VR.mono st.keep _ _ r1)) r2)
theorem simM_own {i : Nat} (h : PE X e (tF G C ex)) (hr : PA X es (tMs G C ms)) (hs : starEach (e :: es) X.env = (false, eval e X.env) :: starEach es X.env) : PA X (e :: es) (tMs G C (.cons true i ex ms)) :=
  impA (pa_cons h hr hs) fun σ H Q ⟨env, S, ρ, B, B0, l, S', s, er, ev, q⟩ => by
    rw [evMs] at ev
    obtain ⟨⟨d, S1⟩, x, e1, e2, e3⟩ := bind2 ev
    obtain ⟨⟨l', S2⟩, e4, e5⟩ := Option.map_eq_some_iff.mp e3
    cases e5
    have e2 : ownS d = some x := e2
    refine ⟨env, S, ρ, B, B0, d, S1, s, er, e1, fun H1 ρ1 x1 s1 => ⟨fun p o hp f => ?_, fun v H' x s' r ht => ?_⟩⟩
    · have nB : p ∉ B := fun z => (s1.bt p z).1 hp
      refine ⟨env, S1, ρ1, p :: B, B0, l', S2, s1.ban hp, (er.ext s x1).ban s1 hp, e4, fun vs H2 ρ2 B2 st s2 r2 => ?_⟩
      have st2 := ((Stp.ext1 s x1).trans (Stp.ban1 (o := o) s1 hp)).trans st
      have pB2 : p ∈ B2 := st.sub p List.mem_cons_self
      have np : p ∉ ρ1 := fun z => s1.tracked z hp
      have at2 : H2 p = some o := st.ext.keep p o upd_same np
      have kp := (Stp.ban1 (G := G) (o := o) s1 hp).keep.trans st.keep
      cases f with
      | lst rr =>
        cases e2
        exact q _ _ _ _ st2 s2 (.cons (.ol pB2 nB at2 (VRs.mono kp _ _ rr)) r2)
      | dct rr =>
        cases e2
        exact q _ _ _ _ st2 s2 (.cons (.od pB2 nB at2 (VRk.mono kp _ _ rr)) r2)
    · cases d <;> first | (cases ht; done) | (cases e2; done)
/-! ### the slots set -/
def OwnIn (L : List Addr) (σ : St) (env : Env) : Prop := ∀ (j : Nat) (x : Sl) (a : Addr), env[j]? = some x → isOwn x = true → σ[j]? = some (some (.ref a)) → a ∈ L
theorem ER.ownIn (t : ER G H ρ B B0 σ env) : OwnIn B σ env := fun j x a e o s => by
  cases t.sl j x e with
  | un => cases o
  | fz _ _ => cases o
  | ol e1 hb _ _ _ => rw [e1] at s; cases s; exact hb
  | od e1 hb _ _ _ => rw [e1] at s; cases s; exact hb
theorem OwnIn.set {i : Nat} {x : Sl} {v : V} (h : OwnIn L σ env) (hl : σ.length = env.length) (sub : ∀ a ∈ L, a ∈ L') (hx : isOwn x = true → ∀ a, v = .ref a → a ∈ L') : OwnIn L' (σ.set i (some v)) (env.set i x) := fun j y a e o s => by
  by_cases hj : j = i
  · subst hj
    have lt : j < env.length := by
      have := (List.getElem?_eq_some_iff.mp e).1
      rwa [List.length_set] at this
    rw [List.getElem?_set_self lt] at e
    rw [List.getElem?_set_self (by rw [hl]; exact lt)] at s
    cases e
    exact hx o a (Option.some.inj (Option.some.inj s))
  · rw [List.getElem?_set_ne (Ne.symm hj)] at e s
    exact sub a (h j y a e o s)
theorem ER.give {i : Nat} {x : Sl} {a : Addr} (t : ER G H ρ B B0 σ env) (ow : OwnIn L σ env) (ha : a ∉ L) (hi : i < env.length) (hr : SlR G H ρ B B0 (σ.set i (some (.ref a))) i x) : ER G H ρ B B0 (σ.set i (some (.ref a))) (env.set i x) := by
  have hl := t.len
  refine ⟨by rw [List.length_set, List.length_set]; exact hl, fun j y e => ?_, fun j k y z b e1 e2 o1 o2 s1 s2 => ?_⟩
  · by_cases hj : j = i
    · subst hj
      rw [List.getElem?_set_self hi] at e
      cases e
      exact hr
    · rw [List.getElem?_set_ne (Ne.symm hj)] at e
      have ne := List.getElem?_set_ne (l := σ) (a := some (V.ref a)) (Ne.symm hj)
      cases t.sl j y e with
      | un => exact .un
      | fz e1 q => exact .fz (by rw [ne]; exact e1) q
      | ol e1 hb hn hh q => exact .ol (by rw [ne]; exact e1) hb hn hh q
      | od e1 hb hn hh q => exact .od (by rw [ne]; exact e1) hb hn hh q
  · by_cases hj : j = i
    · by_cases hk : k = i
      · rw [hj, hk]
      · subst hj
        rw [List.getElem?_set_self (by rw [hl]; exact hi)] at s1
        rw [List.getElem?_set_ne (Ne.symm hk)] at e2 s2
        cases Option.some.inj (Option.some.inj s1)
        exact absurd (ow k z _ e2 o2 s2) ha
    · by_cases hk : k = i
      · subst hk
        rw [List.getElem?_set_self (by rw [hl]; exact hi)] at s2
        rw [List.getElem?_set_ne (Ne.symm hj)] at e1 s1
        cases Option.some.inj (Option.some.inj s2)
        exact absurd (ow j y _ e1 o1 s1) ha
      · rw [List.getElem?_set_ne (Ne.symm hj)] at e1 s1
        rw [List.getElem?_set_ne (Ne.symm hk)] at e2 s2
        exact t.apart j k y z b e1 e2 o1 o2 s1 s2
def setV : List (Nat × Sl) → List V → St → St
  | (i, _) :: l, v :: vs, σ => setV l vs (σ.set i (some v))
  | _, _, σ => σ
theorem MR.set : ∀ {L : List Addr} {l : List (Nat × Sl)} {vs : List V} {σ : St} {env : Env}, MR G H ρ B L l vs → (∀ a ∈ B0, a ∈ L) → ER G H ρ B B0 σ env → OwnIn L σ env → (∀ q ∈ l, q.1 < env.length) → ER G H ρ B B0 (setV l vs σ) (setAll l env)
  | _, _, _, σ, env, .nil, _, t, _, _ => t
  | L, (i, x) :: l, v :: vs, σ, env, .cons h r, sb, t, ow, hi => by
    have lt := hi (i, x) List.mem_cons_self
    have hi' : ∀ q ∈ l, q.1 < (env.set i x).length := fun q hq => by rw [List.length_set]; exact hi q (List.mem_cons_of_mem _ hq)
    show ER G H ρ B B0 (setV l vs (σ.set i (some v))) (setAll l (env.set i x))
    cases h with
    | fz rv => exact MR.set r sb (t.set rv) (ow.set t.len (fun _ h => h) fun o => by cases o) hi'
    | ol ha hn hh rr =>
      refine MR.set r (fun a h => List.mem_cons_of_mem _ (sb a h)) (t.give ow hn lt (.ol (List.getElem?_set_self (by rw [t.len]; exact lt)) ha (fun z => hn (sb _ z)) hh rr)) (ow.set t.len (fun _ h => List.mem_cons_of_mem _ h) fun _ a e => ?_) hi'
      cases e; exact List.mem_cons_self
    | od ha hn hh rr =>
      refine MR.set r (fun a h => List.mem_cons_of_mem _ (sb a h)) (t.give ow hn lt (.od (List.getElem?_set_self (by rw [t.len]; exact lt)) ha (fun z => hn (sb _ z)) hh rr)) (ow.set t.len (fun _ h => List.mem_cons_of_mem _ h) fun _ a e => ?_) hi'
      cases e; exact List.mem_cons_self
end
end Wf
namespace Wf
open PySem L2
variable {G : Cr} {C : Orc}
section
variable {X : Cx} {e : Expr} {es : List Expr} {ex : E} {ms : Ms} {pos : Pos}
def Ms.ix : Ms → List Nat
  | .nil => []
  | .cons _ i _ ms => i :: ms.ix
theorem evMs_ix {env : Env} : ∀ {ms : Ms} {S S' : Sto} {l : List (Nat × Sl)}, evMs C ms env S = some (l, S') → l.map (·.1) = ms.ix
  | .nil, _, _, _, h => by rw [evMs] at h; cases h; rfl
  | .cons _ i _ ms, _, _, _, h => by
    rw [evMs] at h
    obtain ⟨⟨d, S1⟩, x, e1, e2, e3⟩ := bind2 h
    obtain ⟨⟨l', S2⟩, e4, e5⟩ := Option.map_eq_some_iff.mp e3
    cases e5
    exact congrArg (i :: ·) (evMs_ix e4)
theorem ms_done {σ : St} {H H1 H0 : Hp} {ρ ρ1 ρ0 B B1 B0 : List Addr} {mk : List Mrk} {env : Env} {S S1 : Sto} {l : List (Nat × Sl)} {vs : List V} (r : RS G H0 ρ0 B0 mk σ H env S ρ B) (st : Stp G H ρ B H1 ρ1 B1) (s1 : SR G H1 ρ1 B1 S1) (m : MR G H1 ρ1 B1 B l vs) (hi : ∀ q ∈ l, q.1 < env.length) :
    RS G H0 ρ0 B0 mk (setV l vs σ) H1 (setAll l env) S1 ρ1 B1 := by
  refine ⟨s1, m.set r.sub (st.er _ _ _ r.er) r.er.ownIn hi, fun a h => st.sub a (r.sub a h), fun a h n => ?_, r.ext.trans st.ext, fun k hk => st.mrk k (r.mks k hk)⟩
  by_cases z : a ∈ B
  · exact r.new a z n
  · exact Classical.byContradiction fun w => r.ext.there a w (st.new a h z)
theorem ms_lt {env : Env} {S S' : Sto} {l : List (Nat × Sl)} {n : Nat} (e : evMs C ms env S = some (l, S')) (hn : env.length = n) (h : ∀ i ∈ ms.ix, i < n) : ∀ q ∈ l, q.1 < env.length := fun q hq => by
  rw [hn]
  exact h q.1 (evMs_ix e ▸ List.mem_map_of_mem hq)
theorem sim_ms2 {i j : Nat} {o1 o2 : Bool} {e1 e2 : E} {x y : Str} {a b : Expr} {px py pt pt2 : Pos} {kt k2 : Nat} (hc : X.calm = true) (hN : X.N.Nodup) (hi : X.N[i]? = some x) (hj : X.N[j]? = some y) (hij : i ≠ j) (hx : X.env.scope.names.lookup x = some .local) (hy : X.env.scope.names.lookup y = some .local)
    (ha : PA X [a, b] (tMs G C (.cons o1 i e1 (.cons o2 j e2 .nil)))) (hw : swappedStores [.Tuple [.Name x px, .Name y py] kt pt] (.Tuple [a, b] k2 pt2) X.env = pure (some [x, y])) :
    PS X (.Assign [.Tuple [.Name x px, .Name y py] kt pt] (.Tuple [a, b] k2 pt2) pos) (tS G C (.par (.cons o1 i e1 (.cons o2 j e2 .nil)))) := by
  refine ⟨fun pins s0 σ H De I ⟨H0, ρ0, B0, mk, env, S, ρ, B, fl, r, ev, q⟩ => (ps_par hc hN hi hj hij hx hy ha hw rfl).run pins s0 σ H De I ?_⟩
  rw [evS] at ev
  obtain ⟨⟨l, S1⟩, f1, f2⟩ := Option.map_eq_some_iff.mp ev
  cases f2
  refine ⟨env, S, ρ, B, B0, l, S1, r.sr, r.er, f1, fun vs H1 ρ1 B1 st s1 m => ?_⟩
  have lt := ms_lt f1 (r.er.len.symm.trans I.len) (n := X.N.length) fun k hk => by
    simp only [Ms.ix, List.mem_cons, List.not_mem_nil, or_false] at hk
    rcases hk with rfl | rfl
    · exact (List.getElem?_eq_some_iff.mp hi).1
    · exact (List.getElem?_eq_some_iff.mp hj).1
  have done := ms_done r st s1 m lt
  have ix := evMs_ix f1
  match l, vs, m, done, ix with
  | [(i', u), (j', w)], [v1, v2], m, done, ix =>
    simp only [List.map_cons, List.map_nil, Ms.ix, List.cons.injEq, and_true] at ix
    obtain ⟨rfl, rfl⟩ := ix
    exact ⟨v1, v2, rfl, q _ _ _ _ done⟩
  | [], _, _, _, ix => cases ix
  | [_], _, _, _, ix => cases ix
  | _ :: _ :: _ :: _, _, _, _, ix => cases ix
  | [_, _], [], m, _, _ => cases m
  | [_, _], [_], m, _, _ => (cases m; rename_i m; cases m)
  | [_, _], _ :: _ :: _ :: _, m, _, _ => (cases m; rename_i m; cases m; rename_i m; cases m)
theorem sim_ms3 {i j k : Nat} {o1 o2 o3 : Bool} {e1 e2 e3 : E} {x y z : Str} {a b c : Expr} {px py pz pt pt2 : Pos} {kt k2 : Nat} (hc : X.calm = true) (hN : X.N.Nodup) (hi : X.N[i]? = some x) (hj : X.N[j]? = some y) (hk : X.N[k]? = some z) (hij : i ≠ j) (hik : i ≠ k) (hjk : j ≠ k)
    (hx : X.env.scope.names.lookup x = some .local) (hy : X.env.scope.names.lookup y = some .local) (hz : X.env.scope.names.lookup z = some .local)
    (ha : PA X [a, b, c] (tMs G C (.cons o1 i e1 (.cons o2 j e2 (.cons o3 k e3 .nil))))) (hw : swappedStores [.Tuple [.Name x px, .Name y py, .Name z pz] kt pt] (.Tuple [a, b, c] k2 pt2) X.env = pure (some [x, y, z])) :
    PS X (.Assign [.Tuple [.Name x px, .Name y py, .Name z pz] kt pt] (.Tuple [a, b, c] k2 pt2) pos) (tS G C (.par (.cons o1 i e1 (.cons o2 j e2 (.cons o3 k e3 .nil))))) := by
  refine ⟨fun pins s0 σ H De I ⟨H0, ρ0, B0, mk, env, S, ρ, B, fl, r, ev, q⟩ => (ps_par3 hc hN hi hj hk hij hik hjk hx hy hz ha hw rfl).run pins s0 σ H De I ?_⟩
  rw [evS] at ev
  obtain ⟨⟨l, S1⟩, f1, f2⟩ := Option.map_eq_some_iff.mp ev
  cases f2
  refine ⟨env, S, ρ, B, B0, l, S1, r.sr, r.er, f1, fun vs H1 ρ1 B1 st s1 m => ?_⟩
  have lt := ms_lt f1 (r.er.len.symm.trans I.len) (n := X.N.length) fun q hq => by
    simp only [Ms.ix, List.mem_cons, List.not_mem_nil, or_false] at hq
    rcases hq with rfl | rfl | rfl
    · exact (List.getElem?_eq_some_iff.mp hi).1
    · exact (List.getElem?_eq_some_iff.mp hj).1
    · exact (List.getElem?_eq_some_iff.mp hk).1
  have done := ms_done r st s1 m lt
  have ix := evMs_ix f1
  match l, vs, m, done, ix with
  | [(i', u), (j', w), (k', w2)], [v1, v2, v3], m, done, ix =>
    simp only [List.map_cons, List.map_nil, Ms.ix, List.cons.injEq, and_true] at ix
    obtain ⟨rfl, rfl, rfl⟩ := ix
    exact ⟨v1, v2, v3, rfl, q _ _ _ _ done⟩
  | [], _, _, _, ix => cases ix
  | [_], _, _, _, ix => cases ix
  | [_, _], _, _, _, ix => cases ix
  | _ :: _ :: _ :: _ :: _, _, _, _, ix => cases ix
  | [_, _, _], [], m, _, _ => cases m
  | [_, _, _], [_], m, _, _ => (cases m; rename_i m; cases m)
  | [_, _, _], [_, _], m, _, _ => (cases m; rename_i m; cases m; rename_i m; cases m)
  | [_, _, _], _ :: _ :: _ :: _ :: _, m, _, _ => (cases m; rename_i m; cases m; rename_i m; cases m; rename_i m; cases m)
end
end Wf
set_option Elab.async false
set_option linter.all false
set_option maxRecDepth 100000
namespace Wf
open PySem PySem.Spec PyProof.Rows L2
/-! ### enumerate(tuple) -/
theorem meets_enum1 {v : Value} {o : Obj} {Hh : Heap → Prop} (B : Begins v o Hh) :
    Meets (Builtin.«enumerate.__new__» ⟨[.type "enumerate", v], []⟩) (fun _ R s => Hh s.heap ∧
      R (.ok (.ret (.ref (s.heap.push o).objs.size))) { s with heap := (s.heap.push o).push { cls := .type "enumerate", data := .fields #[.none, .bool false, .ref s.heap.objs.size, rawInt 0, .none, .none] } }) :=
  .of_wp fun prog w A R s h => by
    obtain ⟨hp, g, d, tk, os⟩ := s; obtain ⟨h1, h⟩ := h
    have hsub := sub_enumerate
    have q1 : ∀ {A' : Around} {E : Value → Shared → Prop} {Q : Value → Shared → Prop}, Q (.ref hp.objs.size) ⟨hp.push o, g, d, tk, os⟩ → wpAny (model prog w) A' (pyIter v) Q E ⟨hp, g, d, tk, os⟩ :=
      fun q => B.iter prog w _ _ ⟨hp, g, d, tk, os⟩ _ h1 q
    wp_walk using q1
    refine wpAny_stack_any fun st => wpAny_pure ?_
    split
    · rename_i cc _ _ _ _ _
      cases (cc == Value.type "enumerate") <;> (wp_walk using q1; exact ⟨_, rfl, h⟩)
    · wp_walk using q1; exact ⟨_, rfl, h⟩
theorem call_enum1 {prog : Program} {w : World} {A : Around} {E : Value → Shared → Prop} {s : Shared} {v : Value} {o : Obj} {Hh : Heap → Prop} {Q : Value → Shared → Prop} (B : Begins v o Hh) (h1 : Hh s.heap)
    (h : ∀ h', IsEnum h' (s.heap.objs.size + 1) s.heap.objs.size 0 .none → h'.get? s.heap.objs.size = some o → h'.objs.size = s.heap.objs.size + 2 → (∀ b o, s.heap.get? b = some o → h'.get? b = some o) → Q (.ref (s.heap.objs.size + 1)) { s with heap := h' }) :
    wpAny (model prog w) A (call (.type "enumerate") [v]) Q E s := by
  refine callType_new F.called_enumerate (by decide) (F.typeCall_enumerate_1 _) (F.newCall_enumerate_1 _) (fun obj => F.args_object_init_2 obj _) F.entry_enumerate_new (meets_enum1 B) ⟨h1, ?_⟩
  have hz : (s.heap.push o).objs.size = s.heap.objs.size + 1 := Heap.size_push ..
  show _ ∧ _
  rw [hz]
  have he : IsEnum ((s.heap.push o).push { cls := .type "enumerate", data := .fields #[.none, .bool false, .ref s.heap.objs.size, rawInt 0, .none, .none] }) (s.heap.objs.size + 1) s.heap.objs.size 0 .none := by
    have := Heap.get?_push_size (s.heap.push o) (o := { cls := .type "enumerate", data := .fields #[.none, .bool false, .ref s.heap.objs.size, rawInt 0, .none, .none] }) rfl
    rw [hz] at this; exact this
  refine ⟨⟨_, he, rfl⟩, h _ he (Heap.get?_push_of_some _ (Heap.get?_push_size _ B.free)) (by rw [Heap.size_push, hz]) fun b o x => Heap.get?_push_of_some _ (Heap.get?_push_of_some _ x)⟩
def IteT (K : PySem.W.Frag) (a : Addr) : L2.It :=
  ⟨fun i H => ∃ (xs : List V) (x : V), SqT K H a xs ∧ xs[i]? = some x, fun i H v H' => ∃ T x, v = .ref T ∧ H T = none ∧ H' = upd H T (.tup [.int (i : Nat), x]) ∧ ∀ xs, SqT K H a xs → xs[i]? = some x, fun i H => ∃ xs : List V, SqT K H a xs ∧ xs.length = i⟩
theorem turn_enumT {P : Program} {w : World} {K : PySem.W.Frag} {elts : List Expr} {kk : Nat} {tpos : Pos} (a e it : Addr) :
    Turn P w K (.Tuple elts kk tpos) (IteT K a) [e, it] e (fun i h => (∃ old, IsEnum h e it ((i : Nat) : Int) old) ∧ h.IsTupleIter it a i ∧ e ≠ it ∧ a ≠ it ∧ a ≠ e) where
  mem := by simp
  obj := fun i h st b hb => by
    obtain ⟨⟨old, he⟩, ⟨o, ho, hc, hd⟩, _⟩ := st
    rcases (show b = e ∨ b = it by simpa using hb) with z | z
    · rw [z]; exact ⟨_, he, fun v q => nomatch q⟩
    · rw [z]; exact ⟨o, ho, fun v q => by rw [hd] at q; cases q⟩
  keep := fun i h h' st k => let ⟨⟨old, he⟩, hi, hne⟩ := st; ⟨⟨old, k e (by simp) _ he⟩, hi.at fun o q => k it (by simp) o q, hne⟩
  item := by
    intro X hP hw hK hc i pins s σ H E I hf st hg
    subst hP hw hK
    obtain ⟨⟨old, he⟩, hit, hne, hai, hae⟩ := st
    obtain ⟨xs, x, hq, hx⟩ := hg
    obtain ⟨its, rv, p, hz⟩ := I.tuple hq
    obtain ⟨u, hu, ru⟩ := rv.get hx
    have hel : e < s.heap.objs.size := Heap.lt_size he
    have hil : it < s.heap.objs.size := by obtain ⟨_, q, _⟩ := hit; exact Heap.lt_size q
    have hilt : i < its.toArray.size := by
      have := (List.getElem?_eq_some_iff.mp hu).1
      simpa using this
    refine wpAny_pyNext_enum_itemC (Draws.tuple (A := X.A.in1) (I.ok.hd hc) it a hai its.toArray) he ⟨hit, p⟩ hilt hne (by simp; exact ⟨hne, Ne.symm hae⟩) fun x' h' tk hP ho hst hT hsz hk => ?_
    have hx' : x' = u := by
      have : its[i]? = some x' := by simpa using hP
      rw [hu] at this
      exact (Option.some.inj this).symm
    subst hx'
    refine ⟨_, rfl, wpAny_letOwnedTupleGo_enum (s := { s with heap := h', toks := tk + 1 }) ho fun h'' he' sb => ?_⟩
    have hT2 : h''.get? s.heap.objs.size = some { cls := .type "tuple", data := .seq #[.int i tk, x'] } := (sb.2 _ (Nat.ne_of_gt hel)).trans hT
    have new : ObjOk X.prog X.w (upd H s.heap.objs.size (.tup [.int (i : Nat), x])) h'' s.heap.objs.size (.tup [.int (i : Nat), x]) :=
      ⟨by show 2 ≤ sizeLine; decide, [.int i tk, x'], .cons ⟨_, rfl⟩ (.cons ru .nil), ⟨_, hT2, rfl, _, rfl⟩⟩
    have I1 : Inv X pins σ (upd H s.heap.objs.size (.tup [.int (i : Nat), x])) { s with heap := h'', toks := tk + 1 } :=
      I.turnedNew (ch := [e, it]) (fun b ob hb q => (sb.2 b (fun z => hb (by simp [z]))).trans (hk b ob (fun z => hb (by simp [z])) (fun z => hb (by simp [z])) q)) hf (Nat.le_refl _) new
    refine ⟨.ref s.heap.objs.size, _, I1, rfl, ⟨_, x, rfl, I.hok.fresh (Nat.le_refl _), rfl, fun ys hy => by rw [I.tuple_inj hy hq]; exact hx⟩, ⟨⟨x', ?_⟩, hst.1.at fun o q => (sb.2 it (Ne.symm hne)).trans q, hne, hai, hae⟩, fun b hb => ?_⟩
    · have e1 : ((i + 1 : Nat) : Int) = (i : Int) + 1 := by omega
      rw [e1]; exact he'
    · have hb' : b < s.heap.objs.size := by
        rcases (show b = e ∨ b = it by simpa using hb) with z | z
        · rw [z]; exact hel
        · rw [z]; exact hil
      rw [upd_ne (Nat.ne_of_lt hb')]
      exact (hf b hb).1
  done := by
    intro X hP hw hK hc i pins s σ H E I hf st hg
    subst hP hw hK
    obtain ⟨⟨old, he⟩, hit, hne, hai, hae⟩ := st
    obtain ⟨xs, hq, hx⟩ := hg
    obtain ⟨its, rv, p, hz⟩ := I.tuple hq
    obtain ⟨f0, f1, f2, f3, f4, f5⟩ := hf it (by simp)
    have hl : i = its.toArray.size := by rw [← hx, rv.length]; simp
    subst hl
    exact wpAny_pyNext_enum_endD (Draws.tuple (A := X.A.in1) (I.ok.hd hc) it a hai its.toArray) he ⟨hit, p⟩ fun h' eb => ⟨rfl, I.turned (t' := s.toks) (fun b o hb q => eb b o hb q) f0 f1 f3 f4 f5⟩
  self := fun A i s Q E st h => let ⟨⟨_, he⟩, _⟩ := st; wpAny_pyIter_enum he h
end Wf
set_option Elab.async false
set_option linter.all false
namespace Wf
open PySem PySem.Spec PyProof.Rows L2
variable {G : Cr} {C : Orc}
theorem enumD_len : ∀ (k : Nat) (ds : List D), (enumD k ds).length = ds.length
  | _, [] => rfl
  | k, _ :: ds => congrArg Nat.succ (enumD_len (k + 1) ds)
theorem enumD_get : ∀ (k : Nat) (ds : List D) (i : Nat), (enumD k ds)[i]? = (ds[i]?).map fun d => .tup [.int ((k + i : Nat) : Int), d]
  | _, [], _ => rfl
  | k, d :: ds, 0 => rfl
  | k, d :: ds, i + 1 => by
    rw [enumD, List.getElem?_cons_succ, List.getElem?_cons_succ, enumD_get (k + 1) ds i]
    have : k + 1 + i = k + (i + 1) := by omega
    rw [this]
section
variable {H : Hp} {ρ B : List Addr} {S : Sto}
theorem pair_new {T : Addr} {i : Nat} {d : D} {x : V} (s : SR G H ρ B S) (hT : H T = none) (r : VR G H ρ B d x) : Ext H ρ (upd H T (.tup [.int (i : Nat), x])) ρ ∧ SR G (upd H T (.tup [.int (i : Nat), x])) ρ B S ∧ VR G (upd H T (.tup [.int (i : Nat), x])) ρ B (.tup [.int ((i : Nat) : Int), d]) (.ref T) := by
  have ex : Ext H ρ (upd H T (.tup [.int (i : Nat), x])) ρ := Ext.laid hT
  exact ⟨ex, s.laid hT, .tup (.inl (.inl upd_same)) (.cons (.int _) (.cons (r.ext s ex) .nil))⟩
theorem iter_enL {ad : Addr} {ds : List D} {vs : List V} {K : PySem.W.Frag} (h : FzL H ρ B ad vs) (r : VRs G H ρ B ds vs) : IterOk G (Ite K ad) H ρ B (enumD 0 ds) := by
  have st : ∀ H2 : Hp, (∀ a o, H a = some o → a ∉ ρ → a ∉ B → H2 a = some o) → SqL K H2 ad vs := fun H2 k => SqL.of (k ad _ h.1 h.2.1 h.2.2)
  refine ⟨fun H2 ρ2 B2 k kp i hi => ?_, fun H2 ρ2 B2 S2 k kp s2 i d e x H3 y => ?_, fun H2 ρ2 B2 k kp => ⟨vs, st H2 k, by rw [r.length, enumD_len]; exact Nat.le_refl _⟩⟩
  · rw [enumD_len] at hi
    obtain ⟨v, e, _⟩ := r.get (List.getElem?_eq_getElem hi)
    exact ⟨vs, v, st H2 k, e⟩
  · obtain ⟨T, z, rfl, hT, rfl, y⟩ := y
    rw [enumD_get] at e
    obtain ⟨d', e1, e2⟩ := Option.map_eq_some_iff.mp e
    subst e2
    obtain ⟨v, e3, r1⟩ := r.get e1
    have e4 := y vs (st _ k)
    rw [e3] at e4
    cases e4
    rw [Nat.zero_add]
    exact pair_new s2 hT (VR.mono kp _ _ r1)
theorem iter_enT {ad : Addr} {ds : List D} {vs : List V} (h : SqT G.K H ad vs) (r : VRs G H ρ B ds vs) : IterOk G (IteT G.K ad) H ρ B (enumD 0 ds) := by
  refine ⟨fun H2 ρ2 B2 k kp i hi => ?_, fun H2 ρ2 B2 S2 k kp s2 i d e x H3 y => ?_, fun H2 ρ2 B2 k kp => ⟨vs, kp.tup _ _ h, by rw [r.length, enumD_len]⟩⟩
  · rw [enumD_len] at hi
    obtain ⟨v, e, _⟩ := r.get (List.getElem?_eq_getElem hi)
    exact ⟨vs, v, kp.tup _ _ h, e⟩
  · obtain ⟨T, z, rfl, hT, rfl, y⟩ := y
    rw [enumD_get] at e
    obtain ⟨d', e1, e2⟩ := Option.map_eq_some_iff.mp e
    subst e2
    obtain ⟨v, e3, r1⟩ := r.get e1
    have e4 := y vs (kp.tup _ _ h)
    rw [e3] at e4
    cases e4
    rw [Nat.zero_add]
    exact pair_new s2 hT (VR.mono kp _ _ r1)
end
section
variable {X : Cx} {a : Expr} {ea : E} {p pos tpos : Pos} {elts : List Expr} {kk : Nat}
theorem sim_enm (hK : X.K = G.K) (hg : Gl X "enumerate") (hm : X.mg "enumerate" = none) (h : PE X a (tE G C ea)) (hs : notStar a = true) : PI X (.Tuple elts kk tpos) (.Call (.Name "enumerate" p) [a] [] pos) (tI G C (.enm ea)) := by
  refine ⟨fun pins s σ H R I ⟨env, S, ρ, B, B0, ds, S', sr, er, ev, q⟩ => ?_⟩
  rw [evI] at ev
  obtain ⟨⟨d, S1⟩, e1, e2⟩ := Option.bind_eq_some_iff.mp ev
  have hs1 : starEach [a] X.env = [(false, eval a X.env)] := star_cons hs
  have ha : PA X [a] (tEs G C (.cons ea .nil)) := sim_cons h sim_nil hs1
  have ee : evEs C (.cons ea .nil) env S = some ([d], S1) := by rw [evEs, e1]; rfl
  refine Call_ (ld_blt I hg hm boot_enumerate (PyProof.Rows.callWith_type1 (thn (ha.run pos pins s σ H (fun vs H1 => ∃ v ρ1, vs = [v] ∧ Ext H ρ H1 ρ1 ∧ SR G H1 ρ1 B S1 ∧ VR G H1 ρ1 B d v) I ⟨env, S, ρ, B, B0, [d], S1, sr, er, ee, fun vs H1 ρ1 x1 s1 r1 => ?_⟩) fun us s1 ⟨vs, H1, I1, r1, v, ρ1, ev1, x1, sr1, rd⟩ => ?_) hs1 rfl))
  · cases r1 with
    | cons a b => cases b; exact ⟨_, ρ1, rfl, x1, s1, a⟩
  · subst ev1
    cases r1 with
    | cons r rr =>
      cases rr
      have fp : ∀ {h' : Heap}, (∀ b o, s1.heap.get? b = some o → h'.get? b = some o) → ∀ b ∈ [s1.heap.objs.size + 1, s1.heap.objs.size], FpOk X pins H1 b := fun hk b hb => by
        have hle : s1.heap.objs.size ≤ b := by
          rcases (show b = s1.heap.objs.size + 1 ∨ b = s1.heap.objs.size by simpa using hb) with z | z
          · rw [z]; exact Nat.le_add_right _ _
          · rw [z]; exact Nat.le_refl _
        exact I1.fpOk hle (I1.hok.fresh hle)
      cases d <;> first | (cases e2; done) | skip
      · rename_i xs
        cases e2
        cases rd with
        | @tup ad _ vs sq rv =>
          cases r
          obtain ⟨its, rv2, p', hz⟩ := I1.tuple (show SqT X.K H1 ad vs by rw [hK]; exact sq)
          have lt : ad < s1.heap.objs.size := by obtain ⟨o, e, _⟩ := p'; exact Heap.lt_size e
          refine call_enum1 (begins_tuple ad its.toArray) p' fun h' he hit hsz hk => wpAny_pyIter_enum he ?_
          have I2 : Inv X pins σ H1 { s1 with heap := h' } := I1.kept (t' := s1.toks) hk
          refine ⟨s1.heap.objs.size + 1, [s1.heap.objs.size + 1, s1.heap.objs.size], _, IteT X.K ad, H1, rfl, I2, turn_enumT ad (s1.heap.objs.size + 1) s1.heap.objs.size, ⟨⟨.none, he⟩, ⟨_, hit, rfl, rfl⟩, Nat.succ_ne_self _, Nat.ne_of_lt lt, Nat.ne_of_lt (Nat.lt_succ_of_lt lt)⟩, fp hk, ?_⟩
          rw [hK]
          exact q _ _ _ x1 sr1 (iter_enT sq rv)
      · rename_i xs
        cases e2
        cases rd with
        | @lst ad _ vs fz rv =>
          cases r
          obtain ⟨its, rv2, p', hz⟩ := I1.list (show SqL X.K H1 ad vs from SqL.of fz.1)
          refine call_enumerate_list p'.isList fun h' he hit hsz hk => wpAny_pyIter_enum he ?_
          have I2 : Inv X pins σ H1 { s1 with heap := h' } := I1.kept (t' := s1.toks) hk
          exact ⟨s1.heap.objs.size + 1, [s1.heap.objs.size + 1, s1.heap.objs.size], _, Ite X.K ad, H1, rfl, I2, turn_enum ad (s1.heap.objs.size + 1) s1.heap.objs.size, ⟨⟨.none, he⟩, hit, Nat.succ_ne_self _⟩, fp hk, q _ _ _ x1 sr1 (iter_enL fz rv)⟩
end
end Wf
set_option Elab.async false
set_option linter.all false
set_option maxRecDepth 100000
namespace Wf
open PySem PySem.Spec PyProof.Rows L2
/-! ### zip(a, b, strict=True) of two as long as one another -/
section
variable {prog : Program} {w : World} {A : Around} {E : Value → Shared → Prop} {s : Shared}
theorem noe_item {it : Addr} {fp : List Addr} {n i : Nat} {Pv : Nat → Value → Prop} {St : Nat → Heap → Prop} {Q : Option Value → Shared → Prop} (Dr : Draws prog w A it fp n Pv St) (lt : i < n) (st : St i s.heap)
    (q : ∀ x h' tk, Pv i x → St (i + 1) h' → Heap.SameBut it s.heap h' → Q (some x) { s with heap := h', toks := tk }) : wpAny (model prog w) A (Builtin.SmallTypes.nextOrEnd (.ref it)) Q E s := by
  unfold Builtin.SmallTypes.nextOrEnd
  exact wpAny_bind (wpAny_attempt (Dr.item i s _ _ lt st fun x h' tk p st' sb => wpAny_pure (q x h' tk p st' sb)))
theorem noe_end {it : Addr} {fp : List Addr} {n : Nat} {Pv : Nat → Value → Prop} {St : Nat → Heap → Prop} {Q : Option Value → Shared → Prop} (Dr : Draws prog w A it fp n Pv St) (st : St n s.heap)
    (q : ∀ h', Heap.ExtBut it s.heap h' → Q none { s with heap := h' }) : wpAny (model prog w) A (Builtin.SmallTypes.nextOrEnd (.ref it)) Q E s := by
  unfold Builtin.SmallTypes.nextOrEnd
  refine wpAny_bind (wpAny_attempt (Dr.done s _ _ st fun h' e sb ⟨o, ho, hc⟩ => ?_))
  refine wpAny_bind (wpAny_isInstance (s := { s with heap := h' }) (T := "StopIteration") (b := true) ⟨o, ho, hc⟩ isSubtype_stop ?_)
  exact wpAny_pure (q h' sb)
theorem stop_new {α : Type} {Q : α → Shared → Prop} (hh : A.handled = none) (q : ∀ h' e, (∀ b o, s.heap.get? b = some o → h'.get? b = some o) → (∃ o, h'.get? e = some o ∧ o.cls = .type "StopIteration") → E (.ref e) { s with heap := h' }) : wpAny (model prog w) A (Builtin.SmallTypes.stopIteration : Sem α) Q E s := by
  unfold Builtin.SmallTypes.stopIteration
  refine wpAny_bind ?_
  simp only [newExc, newTuple]
  refine wpAny_bind (wpAny_newObj_type (wpAny_bind (m := firstArgMember _ _) (wpAny_of_eq (a := Value.none) (by first | rfl | (simp only [firstArgMember]; rfl)) (wpAny_newObj_type ?_ (by size_fits)))) (by size_fits))
  refine wpAny_raiseNew_none hh (q _ _ (fun b o e => Heap.get?_push_of_some _ (Heap.get?_push_of_some _ e)) ⟨_, Heap.get?_push_size _ rfl, rfl⟩)
abbrev IsZS (h : Heap) (z TI TO : Addr) (f0 : Value) : Prop := h.get? z = some { cls := .type "zip", dict := none, data := .fields #[f0, .bool false, .bool true, .ref TI, .ref TO], slots := #[] }
variable {z TI TO j1 j2 : Addr} {fp1 fp2 : List Addr} {n i : Nat} {P1 P2 : Nat → Value → Prop} {St1 St2 : Nat → Heap → Prop} {a1 a2 : Value}
theorem zs2_item {Q : Value → Shared → Prop} (Sp : ZipSep2 z TI TO j1 j2 fp1 fp2) (X1 : Draws prog w A j1 fp1 n P1 St1) (X2 : Draws prog w A j2 fp2 n P2 St2)
    (hZ : IsZS s.heap z TI TO .none) (hI : IsTupOf2 s.heap TI (.ref j1) (.ref j2)) (hO : IsTupOf2 s.heap TO a1 a2) (t1 : St1 i s.heap) (t2 : St2 i s.heap) (lt : i < n)
    (q : ∀ x1 x2 h' tk, P1 i x1 → P2 i x2 → IsZS h' z TI TO (rawInt s.heap.objs.size) → IsTupOf2 h' TO x1 x2 → St1 (i + 1) h' → St2 (i + 1) h' → IsTupOf2 h' s.heap.objs.size x1 x2 → h'.objs.size = s.heap.objs.size + 1 →
      (∀ c o, c ≠ z → c ≠ TO → c ≠ j1 → c ≠ j2 → s.heap.get? c = some o → h'.get? c = some o) → Q (.ref s.heap.objs.size) { s with heap := h', toks := tk }) :
    wpAny (model prog w) A (Builtin.«zip.__next__» ⟨[.ref z], []⟩) (fun fin s' => ∃ v, fin = .done (.ret v) ∧ Q v s') E s := by
  obtain ⟨hp, gs, dr, tk0, os⟩ := s
  show wpAny _ _ (field (.ref z) 2 >>= _) _ _ _
  refine wpAny_bind (wpAny_field hZ rfl (x := .bool true) rfl ?_)
  show wpAny _ _ (field (.ref z) 3 >>= _) _ _ _
  refine wpAny_bind (wpAny_field hZ rfl (x := .ref TI) rfl (wpAny_bind (wpAny_seqItems hI rfl ?_)))
  show wpAny _ _ (Builtin.SmallTypes.ownedTupleIsFree (.ref z) >>= _) _ _ _
  refine wpAny_bind ?_
  unfold Builtin.SmallTypes.ownedTupleIsFree
  refine wpAny_bind (wpAny_field hZ rfl (x := .none) rfl (wpAny_pure ?_))
  simp only [if_true]
  refine wpAny_bind (wpAny_rule (wpAny_bind (wpAny_field hZ rfl (x := .ref TO) rfl ?_)))
  refine wpAny_bind (wpAny_setField_rec hZ (by simp) fun g0 hZ0 sb0 => ?_)
  replace hZ0 : IsZS g0 z TI TO .ellipsis := hZ0
  replace sb0 : Heap.SameBut z hp g0 := sb0
  refine wpAny_bind ?_
  simp only [List.zipIdx_cons, List.zipIdx_nil, List.forIn_cons, List.forIn_nil]
  refine wpAny_bind (wpAny_bind (wpAny_onRaise ?_))
  show wpAny _ _ (Builtin.SmallTypes.nextOrEnd (.ref j1)) _ _ ⟨g0, gs, dr, tk0, os⟩
  refine noe_item X1 lt (X1.over t1 sb0 Sp.zf1) fun x1 p1 tk1 hx1 sn1 sp1 => ?_
  replace sp1 : Heap.SameBut j1 g0 p1 := sp1
  have u1 : IsTupOf2 p1 TO a1 a2 := sp1.extBut _ _ Sp.Ti1 (sb0.extBut _ _ Sp.TOz hO)
  refine wpAny_bind (wpAny_seqItems (s := ⟨p1, gs, dr, tk1, os⟩) u1 rfl (wpAny_bind (updateSeq_IsTupOf2 (s := ⟨p1, gs, dr, tk1, os⟩) u1 fun g1 v1 sb1 => wpAny_bind (wpAny_letGo (wpAny_pure ?_)))))
  replace v1 : IsTupOf2 g1 TO x1 a2 := v1
  replace sb1 : Heap.SameBut TO p1 g1 := sb1
  refine wpAny_bind (wpAny_bind (wpAny_onRaise ?_))
  show wpAny _ _ (Builtin.SmallTypes.nextOrEnd (.ref j2)) _ _ ⟨g1, gs, dr, tk1, os⟩
  refine noe_item X2 lt (X2.over (X2.over (X2.over t2 sb0 Sp.zf2) sp1 Sp.sep1_2) sb1 Sp.Tf2) fun x2 p2 tk2 hx2 sn2 sp2 => ?_
  replace sp2 : Heap.SameBut j2 g1 p2 := sp2
  have u2 : IsTupOf2 p2 TO x1 a2 := sp2.extBut _ _ Sp.Ti2 v1
  refine wpAny_bind (wpAny_seqItems (s := ⟨p2, gs, dr, tk2, os⟩) u2 rfl (wpAny_bind (updateSeq_IsTupOf2 (s := ⟨p2, gs, dr, tk2, os⟩) u2 fun g2 v2 sb2 => wpAny_bind (wpAny_letGo (wpAny_pure (wpAny_pure ?_))))))
  replace v2 : IsTupOf2 g2 TO x1 x2 := v2
  replace sb2 : Heap.SameBut TO p2 g2 := sb2
  refine wpAny_bind (wpAny_seqItems (s := ⟨g2, gs, dr, tk2, os⟩) v2 rfl (wpAny_bind (wpAny_newTuple ?_)))
  have sz : g2.objs.size = hp.objs.size := by rw [sb2.1, sp2.1, sb1.1, sp1.1, sb0.1]
  have zz : IsZS g2 z TI TO .ellipsis := sb2.extBut _ _ Sp.TOz.symm (sp2.extBut _ _ Sp.zi2 (sb1.extBut _ _ Sp.TOz.symm (sp1.extBut _ _ Sp.zi1 hZ0)))
  have kk : ∀ c o, c ≠ z → c ≠ TO → c ≠ j1 → c ≠ j2 → hp.get? c = some o → g2.get? c = some o := fun c o c1 c2 c3 c4 e =>
    sb2.extBut _ _ c2 (sp2.extBut _ _ c4 (sb1.extBut _ _ c2 (sp1.extBut _ _ c3 (sb0.extBut _ _ c1 e))))
  have m1 : St1 (i + 1) g2 := X1.over (X1.over (X1.over sn1 sb1 Sp.Tf1) sp2 Sp.sep2_1) sb2 Sp.Tf1
  have m2 : St2 (i + 1) g2 := X2.over sn2 sb2 Sp.Tf2
  have zl : z < g2.objs.size := Heap.lt_size zz
  show wpAny _ _ (Builtin.SmallTypes.ownedTupleHandOut (.ref z) (.ref g2.objs.size) >>= _) _ _ ⟨g2.push { cls := .type "tuple", data := .seq #[x1, x2] }, gs, dr, tk2, os⟩
  refine wpAny_bind ?_
  unfold Builtin.SmallTypes.ownedTupleHandOut
  have z6 : IsZS (g2.push { cls := .type "tuple", data := .seq #[x1, x2] }) z TI TO .ellipsis := Heap.get?_push_of_some _ zz
  refine wpAny_bind (wpAny_setField_rec z6 (by simp) fun h7 z7 sb7 => ?_)
  replace z7 : IsZS h7 z TI TO (rawInt g2.objs.size) := z7
  refine wpAny_setField_rec z7 (by simp) fun h8 z8 sb8 => ?_
  replace z8 : IsZS h8 z TI TO (rawInt g2.objs.size) := z8
  replace sb7 : Heap.SameBut z (g2.push { cls := .type "tuple", data := .seq #[x1, x2] }) h7 := sb7
  replace sb8 : Heap.SameBut z h7 h8 := sb8
  have up : ∀ c o, c ≠ z → g2.get? c = some o → h8.get? c = some o := fun c o c1 e => sb8.extBut _ _ c1 (sb7.extBut _ _ c1 (Heap.get?_push_of_some _ e))
  have w8 : IsTupOf2 h8 g2.objs.size x1 x2 := sb8.extBut _ _ (Nat.ne_of_gt zl) (sb7.extBut _ _ (Nat.ne_of_gt zl) (Heap.get?_push_size _ rfl))
  have s8 : h8.objs.size = g2.objs.size + 1 := by rw [sb8.1, sb7.1, Heap.size_push]
  rw [sz] at z8 w8 s8
  refine wpAny_pure ⟨_, rfl, ?_⟩
  show Q (.ref g2.objs.size) ⟨h8, gs, dr, tk2, os⟩
  rw [sz]
  exact q x1 x2 h8 tk2 hx1 hx2 z8 (up _ _ Sp.TOz v2) (X1.frame _ _ _ m1 fun b hb o e => up b o (fun y => Sp.zf1 (y ▸ hb)) e) (X2.frame _ _ _ m2 fun b hb o e => up b o (fun y => Sp.zf2 (y ▸ hb)) e) w8 s8 fun c o c1 c2 c3 c4 e => up c o c1 (kk c o c1 c2 c3 c4 e)
theorem zs2_end {Q : PySem.Fin → Shared → Prop} (hh : A.handled = none) (Sp : ZipSep2 z TI TO j1 j2 fp1 fp2) (X1 : Draws prog w A j1 fp1 n P1 St1) (X2 : Draws prog w A j2 fp2 n P2 St2)
    (hZ : IsZS s.heap z TI TO .none) (hI : IsTupOf2 s.heap TI (.ref j1) (.ref j2)) (hO : IsTupOf2 s.heap TO a1 a2) (t1 : St1 n s.heap) (t2 : St2 n s.heap)
    (q : ∀ h' tk e, (∀ c o, c ≠ z → c ≠ TO → c ≠ j1 → c ≠ j2 → s.heap.get? c = some o → h'.get? c = some o) → (∃ o, h'.get? e = some o ∧ o.cls = .type "StopIteration") → E (.ref e) { s with heap := h', toks := tk }) :
    wpAny (model prog w) A (Builtin.«zip.__next__» ⟨[.ref z], []⟩) Q E s := by
  obtain ⟨hp, gs, dr, tk0, os⟩ := s
  show wpAny _ _ (field (.ref z) 2 >>= _) _ _ _
  refine wpAny_bind (wpAny_field hZ rfl (x := .bool true) rfl ?_)
  show wpAny _ _ (field (.ref z) 3 >>= _) _ _ _
  refine wpAny_bind (wpAny_field hZ rfl (x := .ref TI) rfl (wpAny_bind (wpAny_seqItems hI rfl ?_)))
  show wpAny _ _ (Builtin.SmallTypes.ownedTupleIsFree (.ref z) >>= _) _ _ _
  refine wpAny_bind ?_
  unfold Builtin.SmallTypes.ownedTupleIsFree
  refine wpAny_bind (wpAny_field hZ rfl (x := .none) rfl (wpAny_pure ?_))
  simp only [if_true]
  refine wpAny_bind (wpAny_rule (wpAny_bind (wpAny_field hZ rfl (x := .ref TO) rfl ?_)))
  refine wpAny_bind (wpAny_setField_rec hZ (by simp) fun g0 hZ0 sb0 => ?_)
  replace hZ0 : IsZS g0 z TI TO .ellipsis := hZ0
  replace sb0 : Heap.SameBut z hp g0 := sb0
  refine wpAny_bind ?_
  simp only [List.zipIdx_cons, List.zipIdx_nil, List.forIn_cons, List.forIn_nil]
  refine wpAny_bind (wpAny_bind (wpAny_onRaise ?_))
  show wpAny _ _ (Builtin.SmallTypes.nextOrEnd (.ref j1)) _ _ ⟨g0, gs, dr, tk0, os⟩
  refine noe_end X1 (X1.over t1 sb0 Sp.zf1) fun p1 eb1 => ?_
  replace eb1 : Heap.ExtBut j1 g0 p1 := eb1
  have z1 : IsZS p1 z TI TO .ellipsis := eb1 _ _ Sp.zi1 hZ0
  refine wpAny_bind (wpAny_setField_rec (s := ⟨p1, gs, dr, tk0, os⟩) z1 (by simp) fun g1 _ sb1 => ?_)
  replace sb1 : Heap.SameBut z p1 g1 := sb1
  have t2' : St2 n g1 := X2.frame _ _ _ t2 fun b hb o e => sb1.extBut _ _ (fun y => Sp.zf2 (y ▸ hb)) (eb1 _ _ (fun y => Sp.sep1_2 (y ▸ hb)) (sb0.extBut _ _ (fun y => Sp.zf2 (y ▸ hb)) e))
  refine wpAny_bind ?_
  show wpAny _ _ (forIn [(Value.ref j2, 1)] PUnit.unit _ >>= _) _ _ ⟨g1, gs, dr, tk0, os⟩
  refine wpAny_bind ?_
  simp only [List.forIn_cons, List.forIn_nil]
  refine wpAny_bind (wpAny_bind ?_)
  refine noe_end X2 t2' fun p2 eb2 => ?_
  replace eb2 : Heap.ExtBut j2 g1 p2 := eb2
  refine wpAny_pure (wpAny_pure (wpAny_bind (wpAny_rule (stop_new hh fun h' e kh he => ?_))))
  exact q h' tk0 e (fun c o c1 c2 c3 c4 x => kh c o (eb2 _ _ c4 (sb1.extBut _ _ c1 (eb1 _ _ c3 (sb0.extBut _ _ c1 x))))) he
theorem zs2_next {Q : Option Value → Shared → Prop} (Sp : ZipSep2 z TI TO j1 j2 fp1 fp2) (X1 : Draws prog w A.in1 j1 fp1 n P1 St1) (X2 : Draws prog w A.in1 j2 fp2 n P2 St2)
    (hZ : IsZS s.heap z TI TO .none) (hI : IsTupOf2 s.heap TI (.ref j1) (.ref j2)) (hO : IsTupOf2 s.heap TO a1 a2) (t1 : St1 i s.heap) (t2 : St2 i s.heap) (lt : i < n)
    (q : ∀ x1 x2 h' tk, P1 i x1 → P2 i x2 → IsZS h' z TI TO (rawInt s.heap.objs.size) → IsTupOf2 h' TO x1 x2 → St1 (i + 1) h' → St2 (i + 1) h' → IsTupOf2 h' s.heap.objs.size x1 x2 → h'.objs.size = s.heap.objs.size + 1 →
      (∀ c o, c ≠ z → c ≠ TO → c ≠ j1 → c ≠ j2 → s.heap.get? c = some o → h'.get? c = some o) → Q (some (.ref s.heap.objs.size)) { s with heap := h', toks := tk }) :
    wpAny (model prog w) A (pyNext (.ref z)) Q E s := by
  have ty : s.TypeIs (.ref z) "zip" := ⟨_, hZ, rfl⟩
  unfold pyNext
  exact wpAny_bind (wpAny_attempt (wpAny_callSpecial?_slot (name := Str.ofString "__next__") ty F.slot_zip_next (wpAny_call_entry F.slot_zip_next ty F.entry_zip_next
    (zs2_item Sp X1 X2 hZ hI hO t1 t2 lt fun x1 x2 h' tk e1 e2 e3 e4 e5 e6 e7 e8 e9 => wpAny_pure (q x1 x2 h' tk e1 e2 e3 e4 e5 e6 e7 e8 e9)) (F.args_zip_next_1 _))))
theorem zs2_over {Q : Option Value → Shared → Prop} (hh : A.in1.handled = none) (Sp : ZipSep2 z TI TO j1 j2 fp1 fp2) (X1 : Draws prog w A.in1 j1 fp1 n P1 St1) (X2 : Draws prog w A.in1 j2 fp2 n P2 St2)
    (hZ : IsZS s.heap z TI TO .none) (hI : IsTupOf2 s.heap TI (.ref j1) (.ref j2)) (hO : IsTupOf2 s.heap TO a1 a2) (t1 : St1 n s.heap) (t2 : St2 n s.heap)
    (q : ∀ h' tk, (∀ c o, c ≠ z → c ≠ TO → c ≠ j1 → c ≠ j2 → s.heap.get? c = some o → h'.get? c = some o) → Q none { s with heap := h', toks := tk }) : wpAny (model prog w) A (pyNext (.ref z)) Q E s := by
  have ty : s.TypeIs (.ref z) "zip" := ⟨_, hZ, rfl⟩
  unfold pyNext
  refine wpAny_bind (wpAny_attempt (wpAny_callSpecial?_slot (name := Str.ofString "__next__") ty F.slot_zip_next (wpAny_call_entry F.slot_zip_next ty F.entry_zip_next (zs2_end hh Sp X1 X2 hZ hI hO t1 t2 fun h' tk e hk he => ?_) (F.args_zip_next_1 _))))
  obtain ⟨o, ho, hc⟩ := he
  exact wpAny_bind (wpAny_isInstance (T := "StopIteration") (b := true) ⟨o, ho, hc⟩ isSubtype_stop (wpAny_pure (q _ _ hk)))
theorem zs_go {elts : List Expr} {k : Nat} {pos : Pos} {T : Addr} {Q : Unit → Shared → Prop} (hZ : IsZS s.heap z TI TO (rawInt T)) (q : ∀ h', IsZS h' z TI TO .none → Heap.SameBut z s.heap h' → Q () { s with heap := h' }) :
    wpAny (model prog w) A (letOwnedTupleGo (.Tuple elts k pos) (.ref z) (.ref T)) Q E s := by
  unfold letOwnedTupleGo
  refine wpAny_bind (wpAny_load hZ ?_)
  show wpAny _ _ (if (["enumerate", "zip", "dict_itemiterator", "dict_reverseitemiterator", "odict_iterator", "itertools.zip_longest", "itertools.pairwise"].contains "zip" && (#[rawInt T, .bool false, .bool true, .ref TI, .ref TO] : Array Value)[0]? == some (rawInt T)) = true then _ else _) Q E s
  rw [if_pos (by simp)]
  refine wpAny_bind (wpAny_rule ?_)
  show wpAny _ _ (setField (.ref z) 0 .none) Q E s
  exact wpAny_setField_rec hZ (by simp) fun h' hZ' sb' => q h' hZ' sb'
theorem zs_iter {f0 : Value} {Q : Value → Shared → Prop} (hZ : IsZS s.heap z TI TO f0) (h : Q (.ref z) s) : wpAny (model prog w) A (pyIter (.ref z)) Q E s := by
  have ty : s.TypeIs (.ref z) "zip" := ⟨_, hZ, rfl⟩
  refine wpAny_pyIter_slot ty F.slot_zip_iter (wpAny_call_entry F.slot_zip_iter ty F.entry_zip_iter ?_ (F.args_zip_iter_1 _))
  show wpAny _ _ (ret (.ref z)) _ _ s
  exact wpAny_pure ⟨_, rfl, "zip", _, ty, F.slot_zip_next.lookup, h⟩
end
end Wf
set_option Elab.async false
set_option linter.all false
set_option maxRecDepth 100000
namespace Wf
open PySem PySem.Spec PyProof.Rows L2
theorem tc_zipS (a b c : Value) : checkTypeCall "zip" ⟨[a, b], [(Str.ofString "strict", c)]⟩ = pure () := by kernel_rfl
theorem nc_zipS (a b c : Value) : checkBuiltinCall "zip.__new__" ⟨[.type "zip", a, b], [(Str.ofString "strict", c)]⟩ = pure () := by kernel_rfl
theorem ao_zipS (obj a b c : Value) : argsOk "object.__init__" ⟨[obj, a, b], [(Str.ofString "strict", c)]⟩ := by unfold argsOk; kernel_rfl
abbrev zsT (h : Heap) (o1 o2 : Obj) : Heap := ((h.push o1).push o2).push { cls := .type "tuple", data := .seq #[.ref h.objs.size, .ref (h.push o1).objs.size] }
abbrev zsO (h : Heap) (o1 o2 : Obj) : Heap := (zsT h o1 o2).push { cls := .type "tuple", data := .seq #[.none, .none] }
abbrev zsZ (h : Heap) (o1 o2 : Obj) : Heap := (zsO h o1 o2).push { cls := .type "zip", data := .fields #[.none, .bool false, .bool true, .ref ((h.push o1).push o2).objs.size, .ref (zsT h o1 o2).objs.size] }
set_option maxHeartbeats 2000000 in
theorem meets_zipS {v1 v2 : Value} {o1 o2 : Obj} {H1 H2 : Heap → Prop} (B1 : Begins v1 o1 H1) (B2 : Begins v2 o2 H2) :
    Meets (Builtin.«zip.__new__» ⟨[.type "zip", v1, v2], [(Str.ofString "strict", .bool true)]⟩) (fun _ R s => (H1 s.heap ∧ H2 s.heap) ∧ R (.ok (.ret (.ref (zsO s.heap o1 o2).objs.size))) { s with heap := zsZ s.heap o1 o2 }) :=
  .of_wp fun prog w A R s h => by
    obtain ⟨hp, gs, dr, tk, os⟩ := s
    obtain ⟨⟨h1, h2⟩, h⟩ := h
    have hsub := sub_zip
    have q1 : ∀ {A' : Around} {E : Value → Shared → Prop} {Q : Value → Shared → Prop}, Q (.ref hp.objs.size) ⟨hp.push o1, gs, dr, tk, os⟩ → wpAny (model prog w) A' (pyIter v1) Q E ⟨hp, gs, dr, tk, os⟩ := fun q => B1.iter prog w _ _ ⟨hp, gs, dr, tk, os⟩ _ h1 q
    have q2 : ∀ {A' : Around} {E : Value → Shared → Prop} {Q : Value → Shared → Prop}, Q (.ref (hp.push o1).objs.size) ⟨(hp.push o1).push o2, gs, dr, tk, os⟩ → wpAny (model prog w) A' (pyIter v2) Q E ⟨hp.push o1, gs, dr, tk, os⟩ := fun q => B2.iter prog w _ _ ⟨hp.push o1, gs, dr, tk, os⟩ _ (B2.keeps _ _ h2 fun b o e => Heap.get?_push_of_some _ e) q
    have e1 : (Str.ofString "strict" != ("strict" : Str)) = false := by decide +kernel
    wp_walk using q1, q2
    exact ⟨_, rfl, h⟩
section
variable {prog : Program} {w : World} {A : Around} {E : Value → Shared → Prop} {s : Shared}
/-- five new cells: two iterators, two tuples, the zip -/
theorem zipS_new {v1 v2 : Value} {o1 o2 : Obj} {H1 H2 : Heap → Prop} {Q : Value → Shared → Prop} (B1 : Begins v1 o1 H1) (B2 : Begins v2 o2 H2) (h1 : H1 s.heap) (h2 : H2 s.heap)
    (q : ∀ h', IsZS h' (s.heap.objs.size + 4) (s.heap.objs.size + 2) (s.heap.objs.size + 3) .none → IsTupOf2 h' (s.heap.objs.size + 2) (.ref s.heap.objs.size) (.ref (s.heap.objs.size + 1)) → IsTupOf2 h' (s.heap.objs.size + 3) .none .none →
      h'.get? s.heap.objs.size = some o1 → h'.get? (s.heap.objs.size + 1) = some o2 → (∀ b o, s.heap.get? b = some o → h'.get? b = some o) → Q (.ref (s.heap.objs.size + 4)) { s with heap := h' }) :
    wpAny (model prog w) A (call (.type "zip") [v1, v2] [(Str.ofString "strict", .bool true)]) Q E s := by
  refine callType_newKw F.called_zip (by decide) (tc_zipS _ _ _) (nc_zipS _ _ _) (fun obj => ao_zipS obj _ _ _) F.entry_zip_new (meets_zipS B1 B2) ⟨⟨h1, h2⟩, ?_⟩
  have n1 : (s.heap.push o1).objs.size = s.heap.objs.size + 1 := Heap.size_push ..
  have n2 : ((s.heap.push o1).push o2).objs.size = s.heap.objs.size + 2 := by rw [Heap.size_push, n1]
  have n3 : (zsT s.heap o1 o2).objs.size = s.heap.objs.size + 3 := by rw [Heap.size_push, n2]
  have n4 : (zsO s.heap o1 o2).objs.size = s.heap.objs.size + 4 := by rw [Heap.size_push, n3]
  have gZ := Heap.get?_push_size (zsO s.heap o1 o2) (o := { cls := .type "zip", data := .fields #[.none, .bool false, .bool true, .ref ((s.heap.push o1).push o2).objs.size, .ref (zsT s.heap o1 o2).objs.size] }) rfl
  have gO := Heap.get?_push_of_some { cls := .type "zip", data := .fields #[.none, .bool false, .bool true, .ref ((s.heap.push o1).push o2).objs.size, .ref (zsT s.heap o1 o2).objs.size] } (Heap.get?_push_size (zsT s.heap o1 o2) (o := { cls := .type "tuple", data := .seq #[.none, .none] }) rfl)
  have gT := Heap.get?_push_of_some { cls := .type "zip", data := .fields #[.none, .bool false, .bool true, .ref ((s.heap.push o1).push o2).objs.size, .ref (zsT s.heap o1 o2).objs.size] } (Heap.get?_push_of_some { cls := .type "tuple", data := .seq #[.none, .none] }
    (Heap.get?_push_size ((s.heap.push o1).push o2) (o := { cls := .type "tuple", data := .seq #[.ref s.heap.objs.size, .ref (s.heap.push o1).objs.size] }) rfl))
  have up : ∀ b o, ((s.heap.push o1).push o2).get? b = some o → (zsZ s.heap o1 o2).get? b = some o := fun b o e => Heap.get?_push_of_some _ (Heap.get?_push_of_some _ (Heap.get?_push_of_some _ e))
  show _ ∧ _
  rw [n4]
  rw [n4, n2, n3] at gZ
  have hz : IsZS (zsZ s.heap o1 o2) (s.heap.objs.size + 4) (s.heap.objs.size + 2) (s.heap.objs.size + 3) .none := by
    unfold zsZ
    rw [n2, n3]
    exact gZ
  have hT : IsTupOf2 (zsZ s.heap o1 o2) (s.heap.objs.size + 2) (.ref s.heap.objs.size) (.ref (s.heap.objs.size + 1)) := by
    rw [← n2, ← n1]
    exact gT
  have hO : IsTupOf2 (zsZ s.heap o1 o2) (s.heap.objs.size + 3) .none .none := by
    rw [← n3]
    exact gO
  have z2 := Heap.get?_push_size (s.heap.push o1) (o := o2) B2.free
  rw [n1] at z2
  exact ⟨⟨_, hz, rfl⟩, q _ hz hT hO (up _ _ (Heap.get?_push_of_some _ (Heap.get?_push_size _ B1.free))) (up _ _ z2) fun b o e => up b o (Heap.get?_push_of_some _ (Heap.get?_push_of_some _ e))⟩
end
/-! ### two sources, each a list or a tuple -/
def SqK (k : Bool) (K : PySem.W.Frag) (H : Hp) (a : Addr) (xs : List V) : Prop := match k with
  | true => SqT K H a xs
  | false => SqL K H a xs
def ItKd (k : Bool) (h : Heap) (it a : Addr) (i : Nat) : Prop := match k with
  | true => h.IsTupleIter it a i
  | false => h.IsListIter it a i
def ObKd (k : Bool) (h : Heap) (a : Addr) (its : Array Value) : Prop := match k with
  | true => h.IsTuple a its
  | false => h.IsList a its
def itObj (k : Bool) (a : Addr) : Obj := match k with
  | true => { cls := .type "tuple_iterator", data := .fields #[.ref a, .int 0 0] }
  | false => { cls := .type "list_iterator", data := .fields #[.ref a, .int 0 0] }
theorem begK (k : Bool) (a : Addr) (its : Array Value) : Begins (.ref a) (itObj k a) fun h => ObKd k h a its := by
  cases k
  · exact begins_list a its
  · exact begins_tuple a its
theorem drK {prog : Program} {w : World} {A : Around} (k : Bool) (hh : A.handled = none) (it a : Addr) (ne : a ≠ it) (its : Array Value) : Draws prog w A it [it, a] its.size (fun i v => its[i]? = some v) fun i h => ItKd k h it a i ∧ ObKd k h a its := by
  cases k
  · exact Draws.list hh it a ne its
  · exact Draws.tuple hh it a ne its
theorem ItKd.obj {k : Bool} {h : Heap} {it a : Addr} {i : Nat} (x : ItKd k h it a i) : ∃ o, h.get? it = some o ∧ ∀ v, o.data ≠ .cell v := by
  cases k
  · obtain ⟨o, ho, hc, hd⟩ := x
    exact ⟨o, ho, fun v q => by rw [hd] at q; cases q⟩
  · obtain ⟨o, ho, hc, hd⟩ := x
    exact ⟨o, ho, fun v q => by rw [hd] at q; cases q⟩
theorem ItKd.at {k : Bool} {h h' : Heap} {it a : Addr} {i : Nat} (x : ItKd k h it a i) (f : ∀ o, h.get? it = some o → h'.get? it = some o) : ItKd k h' it a i := by
  cases k
  · exact Heap.IsListIter.at x f
  · exact Heap.IsTupleIter.at x f
theorem ItKd.new {k : Bool} {h : Heap} {it a : Addr} (x : h.get? it = some (itObj k a)) : ItKd k h it a 0 := by
  cases k
  · exact ⟨_, x, rfl, rfl⟩
  · exact ⟨_, x, rfl, rfl⟩
section
variable {X : Cx} {pins : List (Addr × Obj)} {σ : L2.St} {H : Hp} {s : Shared} {a : Addr} {xs ys : List V} {k : Bool}
theorem SqK.obj (I : Inv X pins σ H s) (h : SqK k X.K H a xs) : ∃ its : List Value, Vals xs its ∧ ObKd k s.heap a its.toArray ∧ a < s.heap.objs.size := by
  cases k
  · obtain ⟨its, rv, p, _⟩ := I.list h
    exact ⟨its, rv, p.isList, p.lt⟩
  · obtain ⟨its, rv, p, _⟩ := I.tuple h
    obtain ⟨o, ho, _⟩ := id p
    exact ⟨its, rv, p, Heap.lt_size ho⟩
theorem SqK.inj (I : Inv X pins σ H s) (h : SqK k X.K H a xs) (h' : SqK k X.K H a ys) : xs = ys := by
  cases k
  · exact I.list_inj h h'
  · exact I.tuple_inj h h'
end
def ItS (K : PySem.W.Frag) (k1 k2 : Bool) (a b : Addr) : L2.It :=
  ⟨fun i H => ∃ xs ys x y, SqK k1 K H a xs ∧ SqK k2 K H b ys ∧ xs[i]? = some x ∧ ys[i]? = some y ∧ xs.length = ys.length,
   fun i H v H' => ∃ T x y, v = .ref T ∧ H T = none ∧ H' = upd H T (.tup [x, y]) ∧ (∀ xs, SqK k1 K H a xs → xs[i]? = some x) ∧ ∀ ys, SqK k2 K H b ys → ys[i]? = some y,
   fun i H => ∃ xs ys, SqK k1 K H a xs ∧ SqK k2 K H b ys ∧ xs.length = i ∧ ys.length = i⟩
structure Far (z TI TO j1 j2 a b : Addr) : Prop where
  nd : [z, TI, TO, j1, j2].Nodup
  a5 : a ∉ [z, TI, TO, j1, j2]
  b5 : b ∉ [z, TI, TO, j1, j2]
theorem Far.sep {z TI TO j1 j2 a b : Addr} (F : Far z TI TO j1 j2 a b) : ZipSep2 z TI TO j1 j2 [j1, a] [j2, b] := by
  obtain ⟨nd, a5, b5⟩ := F
  simp only [List.nodup_cons, List.mem_cons, List.not_mem_nil, or_false, not_or, List.nodup_nil, and_true, not_false_eq_true] at nd a5 b5
  obtain ⟨⟨n1, n2, n3, n4⟩, ⟨n5, n6, n7⟩, ⟨n8, n9⟩, n10⟩ := nd
  obtain ⟨a1, a2, a3, a4, a6⟩ := a5
  obtain ⟨b1, b2, b3, b4, b6⟩ := b5
  constructor <;> simp only [List.mem_cons, List.not_mem_nil, or_false, not_or, ne_eq, true_or] <;> first | trivial | (constructor <;> first | assumption | exact fun e => by simp_all) | exact fun e => by simp_all
end Wf
set_option Elab.async false
set_option linter.all false
set_option maxRecDepth 100000
namespace Wf
open PySem PySem.Spec PyProof.Rows L2
theorem turn_zipS {P : Program} {w : World} {K : PySem.W.Frag} {elts : List Expr} {kk : Nat} {tpos : Pos} {k1 k2 : Bool} {a b z TI TO j1 j2 : Addr} (F : Far z TI TO j1 j2 a b) :
    Turn P w K (.Tuple elts kk tpos) (ItS K k1 k2 a b) [z, TI, TO, j1, j2] z (fun i h => IsZS h z TI TO .none ∧ IsTupOf2 h TI (.ref j1) (.ref j2) ∧ (∃ a1 a2, IsTupOf2 h TO a1 a2) ∧ ItKd k1 h j1 a i ∧ ItKd k2 h j2 b i) where
  mem := by simp
  obj := fun i h st c hc => by
    obtain ⟨hZ, hI, ⟨a1, a2, hO⟩, t1, t2⟩ := st
    rcases (show c = z ∨ c = TI ∨ c = TO ∨ c = j1 ∨ c = j2 by simpa using hc) with e | e | e | e | e <;> rw [e]
    · exact ⟨_, hZ, fun v q => nomatch q⟩
    · exact ⟨_, hI, fun v q => nomatch q⟩
    · exact ⟨_, hO, fun v q => nomatch q⟩
    · exact t1.obj
    · exact t2.obj
  keep := fun i h h' st k => by
    obtain ⟨hZ, hI, ⟨a1, a2, hO⟩, t1, t2⟩ := st
    exact ⟨k z (by simp) _ hZ, k TI (by simp) _ hI, ⟨a1, a2, k TO (by simp) _ hO⟩, t1.at fun o q => k j1 (by simp) o q, t2.at fun o q => k j2 (by simp) o q⟩
  item := by
    intro X hP hw hK hc i pins s σ H E I hf st hg
    subst hP hw hK
    obtain ⟨hZ, hI, ⟨a1, a2, hO⟩, t1, t2⟩ := st
    obtain ⟨xs, ys, x, y, qx, qy, hx, hy, hl⟩ := hg
    obtain ⟨its, rv, ob1, l1⟩ := qx.obj I
    obtain ⟨jts, rw_, ob2, l2⟩ := qy.obj I
    obtain ⟨u, hu, ru⟩ := rv.get hx
    obtain ⟨v, hv, rv2⟩ := rw_.get hy
    have sp := F.sep
    have n1 : a ≠ j1 := fun e => F.a5 (by simp [e])
    have n2 : b ≠ j2 := fun e => F.b5 (by simp [e])
    have ln : jts.toArray.size = its.toArray.size := by
      have z1 := rv.length
      have z2 := rw_.length
      simp
      omega
    have lt : i < its.toArray.size := by
      have := (List.getElem?_eq_some_iff.mp hu).1
      simpa using this
    have X2 := drK (prog := X.prog) (w := X.w) (A := X.A.in1) k2 (I.ok.hd hc) j2 b n2 jts.toArray
    rw [ln] at X2
    refine zs2_next sp (drK (A := X.A.in1) k1 (I.ok.hd hc) j1 a n1 its.toArray) X2 hZ hI hO ⟨t1, ob1⟩ ⟨t2, ob2⟩ lt fun x1 x2 h' tk p1 p2 b1 b2 b3 b4 b5 b6 b7 => ?_
    have e1 : x1 = u := by
      have : its[i]? = some x1 := by simpa using p1
      rw [hu] at this
      exact (Option.some.inj this).symm
    have e2 : x2 = v := by
      have : jts[i]? = some x2 := by simpa using p2
      rw [hv] at this
      exact (Option.some.inj this).symm
    subst e1 e2
    have zl : z < s.heap.objs.size := Heap.lt_size hZ
    have lf : ∀ c ∈ [z, TI, TO, j1, j2], c < s.heap.objs.size := fun c hcm => by
      rcases (show c = z ∨ c = TI ∨ c = TO ∨ c = j1 ∨ c = j2 by simpa using hcm) with e | e | e | e | e <;> rw [e]
      · exact zl
      · exact Heap.lt_size hI
      · exact Heap.lt_size hO
      · obtain ⟨o, ho, _⟩ := t1.obj; exact Heap.lt_size ho
      · obtain ⟨o, ho, _⟩ := t2.obj; exact Heap.lt_size ho
    refine ⟨_, rfl, zs_go (s := { s with heap := h', toks := tk }) b1 fun h2 zz sb => ?_⟩
    have T2 : IsTupOf2 h2 s.heap.objs.size x1 x2 := sb.extBut _ _ (Nat.ne_of_gt zl) b5
    have nw : ObjOk X.prog X.w (upd H s.heap.objs.size (.tup [x, y])) h2 s.heap.objs.size (.tup [x, y]) := ⟨by show 2 ≤ sizeLine; decide, [x1, x2], .cons ru (.cons rv2 .nil), ⟨_, T2, rfl, _, rfl⟩⟩
    have I1 : Inv X pins σ (upd H s.heap.objs.size (.tup [x, y])) { s with heap := h2, toks := tk } :=
      I.turnedNew (ch := [z, TI, TO, j1, j2]) (fun c ob hcm e => sb.extBut _ _ (fun q => hcm (by simp [q])) (b7 c ob (fun q => hcm (by simp [q])) (fun q => hcm (by simp [q])) (fun q => hcm (by simp [q])) (fun q => hcm (by simp [q])) e)) hf (Nat.le_refl _) nw
    refine ⟨.ref s.heap.objs.size, _, I1, rfl, ⟨_, x, y, rfl, I.hok.fresh (Nat.le_refl _), rfl, fun zs hz => by rw [SqK.inj I hz qx]; exact hx, fun zs hz => by rw [SqK.inj I hz qy]; exact hy⟩, ⟨zz, sb.extBut _ _ sp.TIz (b7 _ _ sp.TIz sp.TITO sp.TIi1 sp.TIi2 hI), ⟨_, _, sb.extBut _ _ sp.TOz b2⟩, b3.1.at fun o e => sb.extBut _ _ (Ne.symm sp.zi1) e, b4.1.at fun o e => sb.extBut _ _ (Ne.symm sp.zi2) e⟩, fun c hcm => ?_⟩
    rw [upd_ne (Nat.ne_of_lt (lf c hcm))]
    exact (hf c hcm).1
  done := by
    intro X hP hw hK hc i pins s σ H E I hf st hg
    subst hP hw hK
    obtain ⟨hZ, hI, ⟨a1, a2, hO⟩, t1, t2⟩ := st
    obtain ⟨xs, ys, qx, qy, lx, ly⟩ := hg
    obtain ⟨its, rv, ob1, l1⟩ := qx.obj I
    obtain ⟨jts, rw_, ob2, l2⟩ := qy.obj I
    have sp := F.sep
    have n1 : a ≠ j1 := fun e => F.a5 (by simp [e])
    have n2 : b ≠ j2 := fun e => F.b5 (by simp [e])
    have z1 : i = its.toArray.size := by rw [← lx, rv.length]; simp
    have z2 : jts.toArray.size = its.toArray.size := by rw [← z1, ← ly, rw_.length]; simp
    have X2 := drK (prog := X.prog) (w := X.w) (A := X.A.in1) k2 (I.ok.hd hc) j2 b n2 jts.toArray
    rw [z2] at X2
    subst z1
    refine zs2_over (I.ok.hd hc) sp (drK (A := X.A.in1) k1 (I.ok.hd hc) j1 a n1 its.toArray) X2 hZ hI hO ⟨t1, ob1⟩ ⟨t2, ob2⟩ fun h' tk hk => ⟨rfl, ?_⟩
    exact I.turnedL (ch := [z, TI, TO, j1, j2]) (fun c o hcm e => hk c o (fun q => hcm (by simp [q])) (fun q => hcm (by simp [q])) (fun q => hcm (by simp [q])) (fun q => hcm (by simp [q])) e) hf
  self := fun A i s Q E st h => zs_iter st.1 h
end Wf
set_option Elab.async false
set_option linter.all false
set_option maxRecDepth 100000
namespace Wf
open PySem PySem.Spec PyProof.Rows L2
theorem zipD_len : ∀ {xs ys : List D}, xs.length = ys.length → (zipD xs ys).length = xs.length
  | [], [], _ => rfl
  | x :: xs, y :: ys, h => by rw [zipD, List.length_cons, List.length_cons, zipD_len (by simpa using h)]
  | [], _ :: _, h => by cases h
  | _ :: _, [], h => by cases h
theorem zipD_get : ∀ {xs ys : List D} {i : Nat} {d : D}, (zipD xs ys)[i]? = some d → ∃ x y, xs[i]? = some x ∧ ys[i]? = some y ∧ d = .tup [x, y]
  | [], _, i, d, h => by rw [zipD] at h <;> first | (cases h; done) | (intros; simp_all)
  | _ :: _, [], i, d, h => by rw [zipD] at h <;> first | (cases h; done) | (intros; simp_all)
  | x :: xs, y :: ys, 0, d, h => by rw [zipD] at h; cases h; exact ⟨x, y, rfl, rfl, rfl⟩
  | x :: xs, y :: ys, i + 1, d, h => by
    rw [zipD] at h
    exact zipD_get (xs := xs) (ys := ys) (i := i) (by simpa using h)
section
variable {G : Cr} {C : Orc} {H : Hp} {ρ B : List Addr} {S : Sto}
theorem two_new {T : Addr} {c d : D} {x y : V} (s : SR G H ρ B S) (hT : H T = none) (r : VR G H ρ B c x) (r2 : VR G H ρ B d y) : Ext H ρ (upd H T (.tup [x, y])) ρ ∧ SR G (upd H T (.tup [x, y])) ρ B S ∧ VR G (upd H T (.tup [x, y])) ρ B (.tup [c, d]) (.ref T) := by
  have ex : Ext H ρ (upd H T (.tup [x, y])) ρ := Ext.laid hT
  exact ⟨ex, s.laid hT, .tup (.inl (.inl upd_same)) (.cons (r.ext s ex) (.cons (r2.ext s ex) .nil))⟩
/-- a value that can be walked: a list that stays, a tuple -/
inductive SeqV (G : Cr) (H : Hp) (ρ B : List Addr) : Bool → List D → Addr → List V → Prop
  | tup {a : Addr} {ds : List D} {vs : List V} : SqT G.K H a vs → VRs G H ρ B ds vs → SeqV G H ρ B true ds a vs
  | lst {a : Addr} {ds : List D} {vs : List V} : FzL H ρ B a vs → VRs G H ρ B ds vs → SeqV G H ρ B false ds a vs
theorem SeqV.vrs {k : Bool} {ds : List D} {a : Addr} {vs : List V} (h : SeqV G H ρ B k ds a vs) : VRs G H ρ B ds vs := by cases h <;> assumption
theorem SeqV.at {k : Bool} {ds : List D} {a : Addr} {vs : List V} (h : SeqV G H ρ B k ds a vs) {H2 : Hp} {ρ2 B2 : List Addr} (kt : ∀ a o, H a = some o → a ∉ ρ → a ∉ B → H2 a = some o) (kp : Keep G H ρ B H2 ρ2 B2) : SqK k G.K H2 a vs := by
  cases h with
  | tup q _ => exact kp.tup _ _ q
  | lst q _ => exact SqL.of (kt a _ q.1 q.2.1 q.2.2)
theorem SeqV.of {d : D} {v : V} {ds : List D} (r : VR G H ρ B d v) (e : seqD d = some ds) : ∃ k a vs, v = .ref a ∧ SeqV G H ρ B k ds a vs := by
  cases r <;> simp only [seqD] at e <;> first | (cases e; done) | skip
  · cases e
    rename_i a vs q r
    exact ⟨true, a, vs, rfl, .tup q r⟩
  · cases e
    rename_i a vs q r
    exact ⟨false, a, vs, rfl, .lst q r⟩
theorem SeqV.ext {k : Bool} {ds : List D} {a : Addr} {vs : List V} {H' : Hp} {ρ' : List Addr} (h : SeqV G H ρ B k ds a vs) (s : SR G H ρ B S) (x : Ext H ρ H' ρ') : SeqV G H' ρ' B k ds a vs := by
  have kp := x.keeps s
  cases h with
  | tup q r => exact .tup (kp.tup _ _ q) (VRs.mono kp _ _ r)
  | lst q r => exact .lst (kp.lst _ _ q) (VRs.mono kp _ _ r)
theorem iter_zpS {k1 k2 : Bool} {xs ys : List D} {a b : Addr} {vs us : List V} (h1 : SeqV G H ρ B k1 xs a vs) (h2 : SeqV G H ρ B k2 ys b us) (hl : xs.length = ys.length) : IterOk G (ItS G.K k1 k2 a b) H ρ B (zipD xs ys) := by
  have r1 := h1.vrs
  have r2 := h2.vrs
  have l1 := r1.length
  have l2 := r2.length
  refine ⟨fun H2 ρ2 B2 k kp i hi => ?_, fun H2 ρ2 B2 S2 k kp s2 i d e x H3 y => ?_, fun H2 ρ2 B2 k kp => ⟨vs, us, h1.at k kp, h2.at k kp, by rw [zipD_len hl]; exact l1, by rw [zipD_len hl]; omega⟩⟩
  · rw [zipD_len hl] at hi
    obtain ⟨v, e1, _⟩ := r1.get (List.getElem?_eq_getElem hi)
    obtain ⟨u, e2, _⟩ := r2.get (List.getElem?_eq_getElem (by omega : i < ys.length))
    exact ⟨vs, us, v, u, h1.at k kp, h2.at k kp, e1, e2, by omega⟩
  · obtain ⟨T, p, q, rfl, hT, rfl, f1, f2⟩ := y
    obtain ⟨c1, c2, g1, g2, rfl⟩ := zipD_get e
    obtain ⟨v, e3, v1⟩ := r1.get g1
    obtain ⟨u, e4, v2⟩ := r2.get g2
    have z1 := f1 vs (h1.at k kp)
    have z2 := f2 us (h2.at k kp)
    rw [e3] at z1
    rw [e4] at z2
    cases z1
    cases z2
    exact two_new s2 hT (VR.mono kp _ _ v1) (VR.mono kp _ _ v2)
end
theorem nd_new (n : Nat) : [n + 4, n + 2, n + 3, n, n + 1].Nodup := by
  simp
theorem out_new {n a : Nat} (h : a < n) : a ∉ [n + 4, n + 2, n + 3, n, n + 1] := by
  simp only [List.mem_cons, List.not_mem_nil, or_false]
  omega
theorem le_new {n a : Nat} (h : a ∈ [n + 4, n + 2, n + 3, n, n + 1]) : n ≤ a := by
  simp only [List.mem_cons, List.not_mem_nil, or_false] at h
  omega
section
variable {M : Model} {A : Around} {E : Value → Shared → Prop} {s : Shared}
theorem cw_typeKw {pos : Pos} {T : String} {args : List (Bool × Sem Value)} {keywords : List (Option Str × Sem Value)} {Q : Value → Shared → Prop} (hplain : args.any (·.1) = false) (hkw : keywords.any (·.1.isNone) = false)
    (h : wpAny M A (evalArgs (.type T) true args keywords) (fun a s₁ => wpAny M A (call (.type T) a.pos a.kw) Q E s₁) E s) : wpAny M A (callWith pos (.type T) [] args keywords) Q E s := by
  unfold callWith
  refine wpAny_bind (wpAny_holding (wpAny_mono h (fun a s1 h1 => wpAny_bind (wpAny_standAt ?_)) fun _ _ x => x))
  simp only [hplain, hkw, Bool.or_false]
  refine wpAny_bind (wpAny_pure (wpAny_bind (wpAny_mono h1 (fun r s2 hr => wpAny_bind (wpAny_holding (wpAny_point (wpAny_pure hr)))) fun _ _ x => x)))
end
section
variable {G : Cr} {C : Orc} {X : Cx} {a b : Expr} {ea eb : E} {p pos tpos kp cp : Pos} {elts : List Expr} {kk cn : Nat}
theorem boot_zipT : bootBuiltins "zip" = some (.type "zip") := by decide +kernel
theorem sim_zps (hK : X.K = G.K) (hg : Gl X "zip") (hm : X.mg "zip" = none) (h1 : PE X a (tE G C ea)) (h2 : PE X b (tE G C eb)) (n1 : notStar a = true) (n2 : notStar b = true) :
    PI X (.Tuple elts kk tpos) (.Call (.Name "zip" p) [a, b] [⟨some "strict", .Constant (.bool true) cn cp, kp⟩] pos) (tI G C (.zps ea eb)) := by
  refine ⟨fun pins s σ H R I ⟨env, S, ρ, B, B0, ds, S', sr, er, ev, q⟩ => ?_⟩
  rw [evI] at ev
  obtain ⟨⟨d1, S1⟩, ⟨d2, S2⟩, e1, e2, e3⟩ := bind2 ev
  obtain ⟨xs, ys, e4, e5, e6⟩ := bind2 e3
  split at e6
  · rename_i hl
    cases e6
    have ha : PA X [a, b] (tEs G C (.cons ea (.cons eb .nil))) := sim_cons h1 (sim_cons h2 sim_nil (star_cons n2)) (star_cons n1)
    have ee : evEs C (.cons ea (.cons eb .nil)) env S = some ([d1, d2], S2) := by rw [evEs, e1]; simp only [Option.bind_some]; rw [evEs, e2]; rfl
    have hkw : PK X [⟨some "strict", .Constant (.bool true) cn cp, kp⟩] (tEs G C (.cons (.k (.bl true)) .nil)) := simK_cons sim_k_bl simK_nil
    refine wpAny_Call_Name_kw (ld_blt I hg hm boot_zipT (cw_typeKw (star_any (by rw [List.all_cons, n1, List.all_cons, n2]; rfl)) rfl ?_))
    have hs : backTo pos (starEach [a, b] X.env) = (false, eval a X.env) :: backTo pos (starEach [b] X.env) := by rw [star_cons n1]; rfl
    rw [hs]
    refine evalArgs_kwB rfl ?_
    rw [← hs]
    refine thn (ha.run pos pins s σ H (fun vs H1 => ∃ ρ1, Ext H ρ H1 ρ1 ∧ SR G H1 ρ1 B S2 ∧ VRs G H1 ρ1 B [d1, d2] vs) I ⟨env, S, ρ, B, B0, [d1, d2], S2, sr, er, ee, fun vs H1 ρ1 x1 s1 r1 => ⟨ρ1, x1, s1, r1⟩⟩) fun us s1 ⟨vs, H1, I1, rv, ρ1, x1, sr1, r1⟩ => ?_
    refine thn (hkw.run pos pins s1 σ H1 (fun zs H2 => ∃ ρ2, Ext H1 ρ1 H2 ρ2 ∧ SR G H2 ρ2 B S2 ∧ VRs G H2 ρ2 B [.bl true] zs) I1 ⟨env, S2, ρ1, B, B0, [.bl true], S2, sr1, er.ext sr x1, by rw [evEs, evE]; rfl, fun zs H2 ρ2 x2 s2 r2 => ⟨ρ2, x2, s2, r2⟩⟩) fun ws s2 ⟨zs, H2, I2, rz, ρ2, x2, sr2, r2⟩ => ?_
    cases r1 with
    | cons q1 r1 =>
      cases r1 with
      | cons q2 r1 =>
        cases r1
        cases r2 with
        | cons q3 r2 =>
          cases r2
          cases q3
          cases rz with
          | cons z1 rz =>
            cases rz
            cases z1
            cases rv with
            | cons w1 rv =>
              cases rv with
              | cons w2 rv =>
                cases rv
                obtain ⟨k1, a1, vs1, rfl, sv1⟩ := SeqV.of q1 e4
                obtain ⟨k2, a2, vs2, rfl, sv2⟩ := SeqV.of q2 e5
                cases w1
                cases w2
                have sv1 := sv1.ext sr1 x2
                have sv2 := sv2.ext sr1 x2
                have id1 : SqK k1 X.K H2 a1 vs1 := by rw [hK]; exact sv1.at (fun _ _ e _ _ => e) (keep_weak fun _ h => h)
                have id2 : SqK k2 X.K H2 a2 vs2 := by rw [hK]; exact sv2.at (fun _ _ e _ _ => e) (keep_weak fun _ h => h)
                obtain ⟨its, rv1, ob1, l1⟩ := id1.obj I2
                obtain ⟨jts, rv2, ob2, l2⟩ := id2.obj I2
                show wpAny _ _ (call (.type "zip") [.ref a1, .ref a2] [(Str.ofString "strict", .bool true)]) _ _ _
                refine zipS_new (begK k1 a1 its.toArray) (begK k2 a2 jts.toArray) ob1 ob2 fun h' hz hT hO g1 g2 hk => zs_iter hz ?_
                have I3 : Inv X pins σ H2 { s2 with heap := h' } := I2.kept (t' := s2.toks) hk
                have far : Far (s2.heap.objs.size + 4) (s2.heap.objs.size + 2) (s2.heap.objs.size + 3) s2.heap.objs.size (s2.heap.objs.size + 1) a1 a2 := by
                  exact ⟨nd_new _, out_new l1, out_new l2⟩
                refine ⟨s2.heap.objs.size + 4, [s2.heap.objs.size + 4, s2.heap.objs.size + 2, s2.heap.objs.size + 3, s2.heap.objs.size, s2.heap.objs.size + 1], _, ItS X.K k1 k2 a1 a2, H2, rfl, I3, turn_zipS far, ⟨hz, hT, ⟨_, _, hO⟩, .new g1, .new g2⟩, fun c hc => ?_, ?_⟩
                · have hle : s2.heap.objs.size ≤ c := le_new hc
                  exact I2.fpOk hle (I2.hok.fresh hle)
                · rw [hK]
                  exact q _ _ _ (x1.trans x2) sr2 (iter_zpS sv1 sv2 hl)
  · cases e6
end
end Wf
set_option Elab.async false
set_option linter.all false
namespace Wf
open PySem L2

/-! ### the look: a tree of the row is this tree -/
structure CS where
  f : Nat
  np : Nat
  kn : List Str
  perm : List Ag
/-- a class called by its name x; a method m of class c -/
structure MK where
  x : Str
  c : Nat
  s : CS
structure MT where
  c : Nat
  m : Str
  s : CS
structure Tb where
  nm : List (Nat × Str)
  cs : List CS
  gn : List (Str × D)
  na : List (Nat × Str)
  mks : List MK
  mts : List MT
def visB (sc : Scope) (x : Str) : Bool := match sc.names.lookup x with
  | some .local => true | some .cell => true | some .free => true | _ => false
def locB (sc : Scope) (x : Str) : Bool := match sc.names.lookup x with
  | some .local => true | some .cell => true | _ => false
def lclB (sc : Scope) (x : Str) : Bool := match sc.names.lookup x with
  | some .local => true | _ => false
def glbB (sc : Scope) (x : Str) : Bool := match sc.names.lookup x with
  | some .globalImplicit => true | _ => false
def okN (x : Str) : Bool := !(x == ("__debug__" : Str)) && !(x == ("__classdict__" : Str))
mutual
def dEq : D → D → Bool
  | .non, .non => true
  | .bl a, .bl b => a == b
  | .int a, .int b => a == b
  | .str a, .str b => decide (a = b)
  | .tup a, .tup b => dEqs a b
  | .kdc a, .kdc b => dEqk a b
  | _, _ => false
def dEqs : List D → List D → Bool
  | [], [] => true
  | a :: r, b :: s => dEq a b && dEqs r s
  | _, _ => false
def dEqk : List (Str × D) → List (Str × D) → Bool
  | [], [] => true
  | (x, a) :: r, (y, b) :: s => decide (x = y) && dEq a b && dEqk r s
  | _, _ => false
end
mutual
theorem dEq_eq : ∀ {a b : D}, dEq a b = true → a = b
  | .non, b, h => by cases b <;> simp only [dEq] at h <;> first | rfl | (cases h; done)
  | .bl a, b, h => by cases b <;> simp only [dEq] at h <;> first | (cases h; done) | rw [beq_iff_eq.mp h]
  | .int a, b, h => by cases b <;> simp only [dEq] at h <;> first | (cases h; done) | rw [beq_iff_eq.mp h]
  | .str a, b, h => by cases b <;> simp only [dEq] at h <;> first | (cases h; done) | rw [of_decide_eq_true h]
  | .tup a, b, h => by cases b <;> simp only [dEq] at h <;> first | (cases h; done) | rw [dEqs_eq h]
  | .kdc a, b, h => by cases b <;> simp only [dEq] at h <;> first | (cases h; done) | rw [dEqk_eq h]
  | .lst a, b, h => by cases b <;> simp only [dEq] at h <;> cases h
  | .dct a, b, h => by cases b <;> simp only [dEq] at h <;> cases h
  | .ref a, b, h => by cases b <;> simp only [dEq] at h <;> cases h
  | .scr a, b, h => by cases b <;> simp only [dEq] at h <;> cases h
theorem dEqs_eq : ∀ {a b : List D}, dEqs a b = true → a = b
  | [], [], _ => rfl
  | a :: r, b :: s, h => by
    rw [dEqs, Bool.and_eq_true] at h
    rw [dEq_eq h.1, dEqs_eq h.2]
  | [], _ :: _, h => by simp only [dEqs] at h; cases h
  | _ :: _, [], h => by simp only [dEqs] at h; cases h
theorem dEqk_eq : ∀ {a b : List (Str × D)}, dEqk a b = true → a = b
  | [], [], _ => rfl
  | (x, a) :: r, (y, b) :: s, h => by
    rw [dEqk, Bool.and_eq_true, Bool.and_eq_true] at h
    rw [of_decide_eq_true h.1.1, dEq_eq h.1.2, dEqk_eq h.2]
  | [], _ :: _, h => by simp only [dEqk] at h; cases h
  | _ :: _, [], h => by simp only [dEqk] at h; cases h
end
def gnB (l : List (Str × D)) (x : Str) (d : D) : Bool := l.any fun q => decide (q.1 = x) && dEq q.2 d
theorem gnB_mem {l : List (Str × D)} {x : Str} {d : D} (h : gnB l x d = true) : (x, d) ∈ l := by
  obtain ⟨⟨a, b⟩, hk, h⟩ := List.any_eq_true.mp h
  simp only [Bool.and_eq_true, decide_eq_true_eq] at h
  rw [← h.1, ← dEq_eq h.2]
  exact hk
def agEq : List Ag → List Ag → Bool
  | [], [] => true
  | .vi a :: r, .vi b :: s => a == b && agEq r s
  | .dv a :: r, .dv b :: s => dEq a b && agEq r s
  | _, _ => false
theorem agEq_eq : ∀ {a b : List Ag}, agEq a b = true → a = b
  | [], [], _ => rfl
  | .vi a :: r, .vi b :: s, h => by
    rw [agEq, Bool.and_eq_true] at h
    rw [beq_iff_eq.mp h.1, agEq_eq h.2]
  | .dv a :: r, .dv b :: s, h => by
    rw [agEq, Bool.and_eq_true] at h
    rw [dEq_eq h.1, agEq_eq h.2]
  | [], .vi _ :: _, h => by cases h
  | [], .dv _ :: _, h => by cases h
  | .vi _ :: _, [], h => by cases h
  | .dv _ :: _, [], h => by cases h
  | .vi _ :: _, .dv _ :: _, h => by cases h
  | .dv _ :: _, .vi _ :: _, h => by cases h
def csB (cs : List CS) (f np : Nat) (kn : List Str) (perm : List Ag) : Bool := cs.any fun c => c.f == f && c.np == np && decide (c.kn = kn) && agEq c.perm perm
theorem csB_mem {cs : List CS} {f np : Nat} {kn : List Str} {perm : List Ag} (h : csB cs f np kn perm = true) : (⟨f, np, kn, perm⟩ : CS) ∈ cs := by
  obtain ⟨c, hc, h⟩ := List.any_eq_true.mp h
  simp only [Bool.and_eq_true, beq_iff_eq, decide_eq_true_eq] at h
  obtain ⟨⟨⟨h1, h2⟩, h3⟩, h4⟩ := h
  have h4 := agEq_eq h4
  cases c
  subst h1 h2 h3 h4
  exact hc
def mkB (l : List MK) (x : Str) (c f np : Nat) (kn : List Str) (perm : List Ag) : Bool := l.any fun k => decide (k.x = x) && k.c == c && k.s.f == f && k.s.np == np && decide (k.s.kn = kn) && agEq k.s.perm perm
theorem mkB_mem {l : List MK} {x : Str} {c f np : Nat} {kn : List Str} {perm : List Ag} (h : mkB l x c f np kn perm = true) : (⟨x, c, ⟨f, np, kn, perm⟩⟩ : MK) ∈ l := by
  obtain ⟨k, hk, h⟩ := List.any_eq_true.mp h
  simp only [Bool.and_eq_true, beq_iff_eq, decide_eq_true_eq] at h
  obtain ⟨⟨⟨⟨⟨h0, h1⟩, h2⟩, h3⟩, h4⟩, h5⟩ := h
  have h5 := agEq_eq h5
  obtain ⟨x', c', ⟨f', np', kn', perm'⟩⟩ := k
  simp only at h0 h1 h2 h3 h4 h5
  subst h0 h1 h2 h3 h4 h5
  exact hk
def mtB (l : List MT) (c : Nat) (m : Str) (f np : Nat) (kn : List Str) (perm : List Ag) : Bool := l.any fun k => decide (k.m = m) && k.c == c && k.s.f == f && k.s.np == np && decide (k.s.kn = kn) && agEq k.s.perm perm
theorem mtB_mem {l : List MT} {c : Nat} {m : Str} {f np : Nat} {kn : List Str} {perm : List Ag} (h : mtB l c m f np kn perm = true) : (⟨c, m, ⟨f, np, kn, perm⟩⟩ : MT) ∈ l := by
  obtain ⟨k, hk, h⟩ := List.any_eq_true.mp h
  simp only [Bool.and_eq_true, beq_iff_eq, decide_eq_true_eq] at h
  obtain ⟨⟨⟨⟨⟨h0, h1⟩, h2⟩, h3⟩, h4⟩, h5⟩ := h
  have h5 := agEq_eq h5
  obtain ⟨c', m', ⟨f', np', kn', perm'⟩⟩ := k
  simp only at h0 h1 h2 h3 h4 h5
  subst h0 h1 h2 h3 h4 h5
  exact hk
def naB (l : List (Nat × Str)) (c : Nat) (f : Str) : Bool := l.any fun q => q.1 == c && decide (q.2 = f)
theorem naB_mem {l : List (Nat × Str)} {c : Nat} {f : Str} (h : naB l c f = true) : (c, f) ∈ l := by
  obtain ⟨⟨a, b⟩, hk, h⟩ := List.any_eq_true.mp h
  simp only [Bool.and_eq_true, beq_iff_eq, decide_eq_true_eq] at h
  rw [← h.1, ← h.2]
  exact hk
/-- only a tuple takes the pairs of enumerate -/
def okIt : It → Expr → Bool
  | .enm _, .Tuple _ _ _ => true
  | .enm _, _ => false
  | .zps _ _, .Tuple _ _ _ => true
  | .zps _ _, _ => false
  | _, _ => true
/-- the names of keywords -/
def knOf : List Keyword → Option (List Str)
  | [] => some []
  | ⟨some k, _, _⟩ :: r => (knOf r).map (k :: ·)
  | ⟨none, _, _⟩ :: _ => none
theorem knOf_map : ∀ {kws : List Keyword} {kn : List Str}, knOf kws = some kn → kws.map Keyword.arg = kn.map some
  | [], _, h => by cases h; rfl
  | ⟨some k, v, p⟩ :: r, kn, h => by
    rw [knOf] at h
    obtain ⟨ks, h1, h2⟩ := Option.map_eq_some_iff.mp h
    subst h2
    show some k :: r.map Keyword.arg = some k :: ks.map some
    rw [knOf_map h1]
  | ⟨none, v, p⟩ :: r, _, h => by cases h
def notSet : Expr → Bool
  | .Set _ _ _ => false
  | _ => true
/-- a test by its value -/
def plainT : Expr → Bool
  | .UnaryOp .Not _ _ => false
  | .BoolOp _ _ _ => false
  | .IfExp _ _ _ _ => false
  | .Compare _ _ _ _ => false
  | _ => true
def tstOk : E → Expr → Bool
  | .nt a, .UnaryOp .Not x _ => tstOk a x
  | .and_ a b, .BoolOp .And [e1, e2] _ => tstOk a e1 && tstOk b e2
  | .and_ a b, .BoolOp .And (e1 :: e2 :: e3 :: es) p => tstOk a e1 && tstOk b (.BoolOp .And (e2 :: e3 :: es) p)
  | .or_ a b, .BoolOp .Or [e1, e2] _ => tstOk a e1 && tstOk b e2
  | .or_ a b, .BoolOp .Or (e1 :: e2 :: e3 :: es) p => tstOk a e1 && tstOk b (.BoolOp .Or (e2 :: e3 :: es) p)
  | .cmp _ _ _, .Compare _ _ _ _ => true
  | .chn _ _ _ _ _, .Compare _ _ _ _ => true
  | .ch3 _ _ _ _ _ _ _, .Compare _ _ _ _ => true
  | .bad, _ => true
  | _, e => plainT e
def isFr : E → Bool
  | .lst _ => true | .dsp _ => true | .cut _ _ _ => true | .rev _ => true | .lc _ _ _ _ _ => true | .lcp _ _ _ _ _ => true | .lc2 _ _ _ _ _ _ _ _ _ => true | .bad => true | _ => false
def opEq : Operator → Operator → Bool := fun a b => decide (a = b)
mutual
def chkT (N : List Str) (sc : Scope) (fb : Str → Bool) : T → Expr → Bool
  | .nm i, .Name x _ => decide (N[i]? = some x) && locB sc x && (fb x || lclB sc x)
  | .tp ts, .Tuple es _ _ => es.all notStar && chkTs N sc fb ts es
  | .st ts i, .Tuple es _ _ => (es.map unstar).all notStar && decide (es.findIdx? (fun e => !notStar e) = some i) && chkTs N sc fb ts (es.map unstar)
  | _, _ => false
def chkTs (N : List Str) (sc : Scope) (fb : Str → Bool) : Ts → List Expr → Bool
  | .nil, [] => true
  | .cons t ts, e :: es => chkT N sc fb t e && chkTs N sc fb ts es
  | _, _ => false
end
def ownP (N : List Str) (own : List Nat) : List (Str × Nat) := own.map fun i => (N[i]?.getD Str.empty, i)
def nilP : Ps → Bool
  | .nil => true | _ => false
mutual
def chkE (T : Tb) (N : List Str) (sc : Scope) (fb : Str → Bool) : E → Expr → Bool
  | .k (.int i), .Constant (.int j) _ _ => i == j
  | .k (.bl i), .Constant (.bool j) _ _ => i == j
  | .k (.str i), .Constant (.str j) _ _ => decide (i = j)
  | .k .non, .Constant .none _ _ => true
  | .v i, .Name x _ => decide (N[i]? = some x) && visB sc x && okN x
  | .gl d, .Name x _ => gnB T.gn x d && glbB sc x && okN x
  | .bin op a b, .BinOp x o y _ => opEq op o && chkE T N sc fb a x && chkE T N sc fb b y
  | .cmp op a b, .Compare x [o] [y] _ => decide (op = o) && chkP T N sc fb a x && chkP T N sc fb b y && !behindInMarks o y
  | .chn o1 o2 a b c, .Compare x [p1, p2] [y, z] _ => decide (o1 = p1) && decide (o2 = p2) && chkE T N sc fb a x && chkE T N sc fb b y && chkE T N sc fb c z && !lastMarks [p1, p2] [y, z]
  | .neg a, .UnaryOp .USub x _ => chkE T N sc fb a x
  | .nt a, .UnaryOp .Not x _ => chkE T N sc fb a x
  | .and_ a b, .BoolOp .And [e1, e2] _ => chkE T N sc fb a e1 && chkE T N sc fb b e2
  | .and_ a b, .BoolOp .And (e1 :: e2 :: e3 :: es) p => chkE T N sc fb a e1 && chkE T N sc fb b (.BoolOp .And (e2 :: e3 :: es) p)
  | .or_ a b, .BoolOp .Or [e1, e2] _ => chkE T N sc fb a e1 && chkE T N sc fb b e2
  | .or_ a b, .BoolOp .Or (e1 :: e2 :: e3 :: es) p => chkE T N sc fb a e1 && chkE T N sc fb b (.BoolOp .Or (e2 :: e3 :: es) p)
  | .ite c a b, .IfExp t x y _ => chkE T N sc fb c t && tstOk c t && chkE T N sc fb a x && chkE T N sc fb b y
  | .sub a i, .Subscript x y _ => chkP T N sc fb a x && noSlice y && chkE T N sc fb i y
  | .cut a lo hi, .Subscript x (.Slice l h none _) _ => chkP T N sc fb a x && chkO T N sc fb lo l && chkO T N sc fb hi h
  | .rev a, .Subscript x (.Slice none none (some (.UnaryOp .USub (.Constant (.int 1) _ _) _)) _) _ => chkP T N sc fb a x
  | .tup es, .Tuple xs _ _ => chkEs T N sc fb es xs
  | .lst es, .List xs _ => chkEs T N sc fb es xs
  | .dsp ps, .Dict ks vs _ => chkPs T N sc fb ps ks vs && (!ks.isEmpty || (nilP ps && vs.isEmpty)) && decide (ks.length ≤ 15)
  | .lrg a b, .Call (.Name x _) [.Call (.Name y _) [u, v] [] _] [] _ => decide (x = "list") && glbB sc x && decide (y = "range") && glbB sc y && chkE T N sc fb a u && chkE T N sc fb b v && notStar u && notStar v
  | .srs a, .Call (.Name x _) [.Call (.Name y _) [u] [] _] [] _ => decide (x = "sorted") && glbB sc x && decide (y = "set") && glbB sc y && chkE T N sc fb a u && notStar u
  | .bi f qs, .Call (.Name x _) (e :: es) [] _ => decide (x = biName f) && glbB sc x && chkQs T N sc fb qs (e :: es)
  | .call f es ks perm, .Call (.Name x _) args kws _ => decide (T.nm.lookup f = some x) && glbB sc x && okN x && chkEs T N sc fb es args && chkKs T N sc fb ks kws && (match knOf kws with | some kn => csB T.cs f args.length kn perm | none => false)
  | .lc own t it c elt, .ListComp x [⟨tg, iter, ifs, 0⟩] scope _ => chkI T N sc fb it iter && okIt it tg && notSet iter && blkC N sc scope (ownP N own) && chkT N (relS scope sc) (fun x => scope.names.lookup x == some .cell) t tg && (t.sl.all fun i => own.contains i) &&
      chkC T N (relS scope sc) (fun x => scope.names.lookup x == some .cell) c ifs && chkE T N (relS scope sc) (fun x => scope.names.lookup x == some .cell) elt x
  | .lcp own t i c elt, .ListComp x [⟨tg, .Name y _, ifs, 0⟩] scope _ => decide (N[i]? = some y) && visB sc y && okN y && blkC N sc scope (ownP N own) && chkT N (relS scope sc) (fun x => scope.names.lookup x == some .cell) t tg && (t.sl.all fun i => own.contains i) &&
      chkC T N (relS scope sc) (fun x => scope.names.lookup x == some .cell) c ifs && chkE T N (relS scope sc) (fun x => scope.names.lookup x == some .cell) elt x
  | .box a, e => isFr a && chkE T N sc fb a e
  | .pop a, .Call (.Attribute x m ap) [] [] p => decide (m = "pop") && chkE T N sc fb a x && noSup x && (ap.endLine == p.line)
  | .app a b, .Call (.Attribute x m ap) [y] [] p => decide (m = "append") && chkE T N sc fb a x && chkE T N sc fb b y && noSup x && (ap.endLine == p.line) && notStar y
  | .att c a f, .Attribute x g _ => decide (f = g) && naB T.na c f && chkE T N sc fb a x && noSup x
  | .mk c f es ks perm, .Call (.Name x _) args kws _ => glbB sc x && okN x && chkEs T N sc fb es args && chkKs T N sc fb ks kws && (match knOf kws with | some kn => mkB T.mks x c f (args.length + 1) kn perm | none => false)
  | .meth c f m a es ks perm, .Call (.Attribute x g ap) args kws p => decide (m = g) && chkE T N sc fb a x && noSup x && (ap.endLine == p.line) && decide (args.length + kws.length < 29) && chkEs T N sc fb es args && chkKs T N sc fb ks kws && (match knOf kws with | some kn => mtB T.mts c m f (args.length + 1) kn perm | none => false)
  | .isi a t, .Call (.Name x _) [y, .Name z _] [] _ => decide (x = "isinstance") && decide (z = tyName t) && glbB sc x && glbB sc z && chkP T N sc fb a y && notStar y
  | .ch3 o1 o2 o3 a b c d, .Compare x [p1, p2, p3] [y, z, u] _ => decide (o1 = p1) && decide (o2 = p2) && decide (o3 = p3) && chkE T N sc fb a x && chkE T N sc fb b y && chkE T N sc fb c z && chkE T N sc fb d u && !lastMarks [p1, p2, p3] [y, z, u]
  | .lc2 own own1 t it c t1 it1 c1 elt, .ListComp x [⟨tg, iter, ifs, 0⟩, ⟨tg1, iter1, ifs1, 0⟩] scope _ => chkI T N sc fb it iter && okIt it tg && notSet iter && notSet iter1 && blkC N sc scope (ownP N own) && (own1.all fun i => own.contains i) && chkT N (relS scope sc) (fun x => scope.names.lookup x == some .cell) t tg && (t.sl.all fun i => own.contains i) &&
      chkC T N (relS scope sc) (fun x => scope.names.lookup x == some .cell) c ifs && chkI T N (relS scope sc) (fun x => scope.names.lookup x == some .cell) it1 iter1 && okIt it1 tg1 && chkT N (relS scope sc) (fun x => scope.names.lookup x == some .cell) t1 tg1 && (t1.sl.all fun i => own1.contains i) &&
      chkC T N (relS scope sc) (fun x => scope.names.lookup x == some .cell) c1 ifs1 && chkE T N (relS scope sc) (fun x => scope.names.lookup x == some .cell) elt x
  | .bad, _ => true
  | _, _ => false
def chkP (T : Tb) (N : List Str) (sc : Scope) (fb : Str → Bool) : P → Expr → Bool
  | .e ex, e => chkE T N sc fb ex e
  | .pk i, .Name x _ => decide (N[i]? = some x) && visB sc x && okN x
  | _, _ => false
def chkQs (T : Tb) (N : List Str) (sc : Scope) (fb : Str → Bool) : Qs → List Expr → Bool
  | .nil, [] => true
  | .cons p ps, e :: es => notStar e && chkP T N sc fb p e && chkQs T N sc fb ps es
  | _, _ => false
def chkO (T : Tb) (N : List Str) (sc : Scope) (fb : Str → Bool) : Oe → Option Expr → Bool
  | .none, none => true
  | .some ex, some e => chkE T N sc fb ex e
  | _, _ => false
def chkC (T : Tb) (N : List Str) (sc : Scope) (fb : Str → Bool) : Oe → List Expr → Bool
  | .none, [] => true
  | .some ex, [e] => chkE T N sc fb ex e && tstOk ex e
  | _, _ => false
def chkEs (T : Tb) (N : List Str) (sc : Scope) (fb : Str → Bool) : Es → List Expr → Bool
  | .nil, [] => true
  | .cons p ps, e :: es => notStar e && chkE T N sc fb p e && chkEs T N sc fb ps es
  | _, _ => false
def chkKs (T : Tb) (N : List Str) (sc : Scope) (fb : Str → Bool) : Es → List Keyword → Bool
  | .nil, [] => true
  | .cons p ps, ⟨_, e, _⟩ :: es => chkE T N sc fb p e && chkKs T N sc fb ps es
  | _, _ => false
def chkPs (T : Tb) (N : List Str) (sc : Scope) (fb : Str → Bool) : Ps → List (Option Expr) → List Expr → Bool
  | .nil, [], [] => true
  | .cons k v ps, some a :: ks, b :: vs => chkE T N sc fb k a && chkE T N sc fb v b && chkPs T N sc fb ps ks vs
  | _, _, _ => false
def chkI (T : Tb) (N : List Str) (sc : Scope) (fb : Str → Bool) : It → Expr → Bool
  | .seq ex, e => chkE T N sc fb ex e
  | .enm a, .Call (.Name x _) [y] [] _ => decide (x = "enumerate") && glbB sc x && chkE T N sc fb a y && notStar y
  | .zps a b, .Call (.Name x _) [y, z] [⟨some kw, .Constant (.bool true) _ _, _⟩] _ => decide (x = "zip") && decide (kw = "strict") && glbB sc x && chkE T N sc fb a y && chkE T N sc fb b z && notStar y && notStar z
  | .rng1 a, .Call (.Name x _) [y] [] _ => decide (x = "range") && glbB sc x && chkE T N sc fb a y && notStar y
  | .rng2 a b, .Call (.Name x _) [y, z] [] _ => decide (x = "range") && glbB sc x && chkE T N sc fb a y && chkE T N sc fb b z && notStar y && notStar z
  | _, _ => false
end
end Wf
set_option Elab.async false
set_option linter.all false
namespace Wf
open PySem L2
variable {G : Cr} {C : Orc} {tb : Tb} {n : Nat}

/-- further built-in names that stay free -/
def btN : List Str := ["sorted", "set"]
/-- where one stands: everything that the look leans on -/
structure Gd (G : Cr) (C : Orc) (tb : Tb) (n : Nat) (X : Cx) : Prop where
  K : X.K = G.K
  w : X.w = G.w
  calm : X.calm = true
  nd : X.N.Nodup
  xe : PassesOwn (model X.prog X.w) X.A X.env X.xe
  room : Room (n + 1) X.A
  gds : X.A.guards = some []
  bi : ∀ f : Bi, X.mg (biName f) = none
  rng : X.mg "range" = none
  enm : X.mg "enumerate" = none
  isi : X.mg "isinstance" = none
  zip : X.mg "zip" = none
  bt : ∀ x ∈ btN, X.mg x = none
  ty : ∀ t : Ty, X.mg (tyName t) = none
  cs : ∀ c ∈ tb.cs, ∃ x fa fd ps, tb.nm.lookup c.f = some x ∧ X.mg x = some (.ref fa) ∧ PySem.W.keepIn X.K (.ref fa) = true ∧ CB G fd ps c.np c.kn c.perm ∧ FnG X.prog X.w X.K X.mg X.base n fa fd ps (spOf G (C.call c.f))
  gl : ∀ q ∈ tb.gn, ∃ u v, X.mg q.1 = some u ∧ RelV v u ∧ ∀ H ρ B, VR G H ρ B q.2 v
  cls : ∀ (c : Nat) (Cc : Addr), G.cl c = some Cc → Cls X.K Cc
  na : ∀ (c : Nat) (f : Str), (c, f) ∈ tb.na → ∀ Cc, G.cl c = some Cc → NoAttr X.K Cc f
  mks : ∀ k ∈ tb.mks, ∃ Cc fa fd ps, X.mg k.x = some (.ref Cc) ∧ G.cl k.c = some Cc ∧ Mk X.K Cc fa ∧ CB G fd ps k.s.np k.s.kn k.s.perm ∧ FnG X.prog X.w X.K X.mg X.base n fa fd ps (spOf G (C.call k.s.f))
  mts : ∀ k ∈ tb.mts, ∃ fa fd ps, (∀ Cc, G.cl k.c = some Cc → Meth X.K Cc k.m fa) ∧ CB G fd ps k.s.np k.s.kn k.s.perm ∧ FnG X.prog X.w X.K X.mg X.base n fa fd ps (spOf G (C.call k.s.f))
section
variable {X : Cx}
theorem Gd.rm (g : Gd G C tb n X) : Room n X.A := g.room.mono (Nat.le_succ n)
theorem Gd.u64 (g : Gd G C tb n X) : X.A.units + 64 < cLine := g.room.units
theorem Gd.u66 (g : Gd G C tb n X) : X.A.units + 66 < cLine := by have := g.room.un; omega
theorem Gd.u1 (g : Gd G C tb n X) : X.A.units + 1 < cLine := by have := g.room.un; omega
theorem Gd.blk (g : Gd G C tb n X) (s : Shared) (H : Hp) (scope : Scope) (cenv : PySem.Env) (fp : List Addr) : Gd G C tb n (X.blk s H scope cenv fp) :=
  ⟨g.K, g.w, g.calm, g.nd, PassesOwn.never, g.room, g.gds, g.bi, g.rng, g.enm, g.isi, g.zip, g.bt, g.ty, g.cs, g.gl, g.cls, g.na, g.mks, g.mts⟩
theorem vis_of {sc : Scope} {x : Str} (h : visB sc x = true) : Vis sc x := by
  unfold visB at h
  split at h
  · exact .inl (by assumption)
  · exact .inr (.inl (by assumption))
  · exact .inr (.inr (by assumption))
  · cases h
theorem loc_of {sc : Scope} {x : Str} (h : locB sc x = true) : Loc sc x := by
  unfold locB at h
  split at h
  · exact .inl (by assumption)
  · exact .inr (by assumption)
  · cases h
theorem lcl_of {sc : Scope} {x : Str} (h : lclB sc x = true) : sc.names.lookup x = some .local := by
  unfold lclB at h
  split at h
  · assumption
  · cases h
theorem glb_of {x : Str} (h : glbB X.env.scope x = true) : Gl X x := by
  unfold glbB at h
  split at h
  · assumption
  · cases h
theorem okN_of {x : Str} (h : okN x = true) : (x == ("__debug__" : Str)) = false ∧ (x == ("__classdict__" : Str)) = false := by
  unfold okN at h
  rw [Bool.and_eq_true, Bool.not_eq_true', Bool.not_eq_true'] at h
  exact h

/-! ### targets -/
theorem each_len (env : PySem.Env) : ∀ es : List Expr, (assignEach es env).length = es.length
  | [] => rfl
  | e :: es => by
    have := each_len env es
    cases e <;> exact congrArg Nat.succ this
theorem each_cons {e : Expr} {es : List Expr} {env : PySem.Env} (h : notStar e = true) : (assignEach (e :: es) env).map (·.2) = assign e env :: (assignEach es env).map (·.2) := by
  cases e <;> first | rfl | cases h
theorem each_idx (env : PySem.Env) : ∀ es : List Expr, (assignEach es env).findIdx? (·.1) = es.findIdx? (fun e => !notStar e)
  | [] => rfl
  | e :: es => by
    have ih := each_idx env es
    cases e <;> first
      | (show ((false, _) :: assignEach es env).findIdx? (·.1) = _; rw [List.findIdx?_cons, List.findIdx?_cons, ih]; rfl)
      | (show ((true, _) :: assignEach es env).findIdx? (·.1) = _; rw [List.findIdx?_cons, List.findIdx?_cons]; rfl)
theorem all_idx : ∀ {es : List Expr}, es.all notStar = true → es.findIdx? (fun e => !notStar e) = none
  | [], _ => rfl
  | e :: es, h => by
    rw [List.all_cons, Bool.and_eq_true] at h
    rw [List.findIdx?_cons, h.1, all_idx h.2]
    rfl
theorem unstar_all {es : List Expr} (h : (es.map unstar).all notStar = true) : (es.map unstar).all (fun e => match e with | .Starred _ _ => false | _ => true) = true := by
  have e : notStar = (fun e => match e with | .Starred _ _ => false | _ => true) := by funext e; cases e <;> rfl
  rw [← e]
  exact h
theorem chkTs_len {N : List Str} {sc : Scope} {fb : Str → Bool} : ∀ {ts : Ts} {es : List Expr}, chkTs N sc fb ts es = true → es.length = ts.len
  | .nil, [], _ => rfl
  | .nil, _ :: _, h => by rw [chkTs] at h <;> first | (cases h; done) | (intros; simp_all)
  | .cons _ _, [], h => by rw [chkTs] at h <;> first | (cases h; done) | (intros; simp_all)
  | .cons t ts, e :: es, h => by
    rw [chkTs, Bool.and_eq_true] at h
    exact congrArg Nat.succ (chkTs_len h.2)
mutual
theorem sndT (hc : X.calm = true) (hK : X.K = G.K) (hN : X.N.Nodup) : ∀ (t : T) (e : Expr), chkT X.N X.env.scope X.fn t e = true → PG X e (tG G t)
  | .nm i, e, h => by
    cases e <;> first | (rw [chkT] at h <;> first | (cases h; done) | (intros; simp_all; done)) | skip
    rename_i x p
    rw [chkT, Bool.and_eq_true, Bool.and_eq_true, Bool.or_eq_true, decide_eq_true_eq] at h
    exact sim_nm hN h.1.1 (loc_of h.1.2) (h.2.imp id lcl_of)
  | .tp ts, e, h => by
    cases e <;> first | (rw [chkT] at h <;> first | (cases h; done) | (intros; simp_all; done)) | skip
    rename_i es k p
    rw [chkT, Bool.and_eq_true] at h
    exact sim_tp hc hK (sndTs hc hK hN ts es h.2 h.1) (by rw [each_len, chkTs_len h.2]) (by rw [each_idx, all_idx h.1])
  | .st ts i, e, h => by
    cases e <;> first | (rw [chkT] at h <;> first | (cases h; done) | (intros; simp_all; done)) | skip
    rename_i es k p
    rw [chkT, Bool.and_eq_true, Bool.and_eq_true, decide_eq_true_eq] at h
    exact sim_st hc hK (sndTs hc hK hN ts _ h.2 h.1.1) (unstar_all h.1.1) (by rw [each_len, ← chkTs_len h.2, List.length_map]) (by rw [each_idx, h.1.2])
theorem sndTs (hc : X.calm = true) (hK : X.K = G.K) (hN : X.N.Nodup) : ∀ (ts : Ts) (es : List Expr), chkTs X.N X.env.scope X.fn ts es = true → es.all notStar = true → PGs X es (tGs G ts)
  | .nil, [], _, _ => simG_nil
  | .nil, _ :: _, h, _ => by rw [chkTs] at h <;> first | (cases h; done) | (intros; simp_all)
  | .cons _ _, [], h, _ => by rw [chkTs] at h <;> first | (cases h; done) | (intros; simp_all)
  | .cons t ts, e :: es, h, hs => by
    rw [chkTs, Bool.and_eq_true] at h
    rw [List.all_cons, Bool.and_eq_true] at hs
    exact simG_cons (sndT hc hK hN t e h.1) (sndTs hc hK hN ts es h.2 hs.2) (each_cons hs.1)
end
end
end Wf
set_option Elab.async false
set_option linter.all false
namespace Wf
open PySem L2

theorem invE_v {T N sc fb i X0} (h : chkE T N sc fb (.v i) X0 = true) : ∃ x w1, X0 = .Name x w1 ∧ (decide (N[i]? = some x) && visB sc x && okN x) = true := by
  unfold chkE at h; split at h
  all_goals first | (cases h; done) | skip
  all_goals rename_i h1
  all_goals first | (cases h1; done) | skip
  all_goals cases h1
  all_goals exact ⟨_, _, rfl, h⟩
theorem invE_gl {T N sc fb d X0} (h : chkE T N sc fb (.gl d) X0 = true) : ∃ x w1, X0 = .Name x w1 ∧ (gnB T.gn x d && glbB sc x && okN x) = true := by
  unfold chkE at h; split at h
  all_goals first | (cases h; done) | skip
  all_goals rename_i h1
  all_goals first | (cases h1; done) | skip
  all_goals cases h1
  all_goals exact ⟨_, _, rfl, h⟩
theorem invE_bin {T N sc fb op a b X0} (h : chkE T N sc fb (.bin op a b) X0 = true) : ∃ x o y w1, X0 = .BinOp x o y w1 ∧ (opEq op o && chkE T N sc fb a x && chkE T N sc fb b y) = true := by
  unfold chkE at h; split at h
  all_goals first | (cases h; done) | skip
  all_goals rename_i h1
  all_goals first | (cases h1; done) | skip
  all_goals cases h1
  all_goals exact ⟨_, _, _, _, rfl, h⟩
theorem invE_cmp {T N sc fb op a b X0} (h : chkE T N sc fb (.cmp op a b) X0 = true) : ∃ x o y w1, X0 = .Compare x [o] [y] w1 ∧ (decide (op = o) && chkP T N sc fb a x && chkP T N sc fb b y && !behindInMarks o y) = true := by
  unfold chkE at h; split at h
  all_goals first | (cases h; done) | skip
  all_goals rename_i h1
  all_goals first | (cases h1; done) | skip
  all_goals cases h1
  all_goals exact ⟨_, _, _, _, rfl, h⟩
theorem invE_chn {T N sc fb o1 o2 a b c X0} (h : chkE T N sc fb (.chn o1 o2 a b c) X0 = true) : ∃ x p1 p2 y z w1, X0 = .Compare x [p1, p2] [y, z] w1 ∧ (decide (o1 = p1) && decide (o2 = p2) && chkE T N sc fb a x && chkE T N sc fb b y && chkE T N sc fb c z && !lastMarks [p1, p2] [y, z]) = true := by
  unfold chkE at h; split at h
  all_goals first | (cases h; done) | skip
  all_goals rename_i h1
  all_goals first | (cases h1; done) | skip
  all_goals cases h1
  all_goals exact ⟨_, _, _, _, _, _, rfl, h⟩
theorem invE_neg {T N sc fb a X0} (h : chkE T N sc fb (.neg a) X0 = true) : ∃ x w1, X0 = .UnaryOp .USub x w1 ∧ (chkE T N sc fb a x) = true := by
  unfold chkE at h; split at h
  all_goals first | (cases h; done) | skip
  all_goals rename_i h1
  all_goals first | (cases h1; done) | skip
  all_goals cases h1
  all_goals exact ⟨_, _, rfl, h⟩
theorem invE_nt {T N sc fb a X0} (h : chkE T N sc fb (.nt a) X0 = true) : ∃ x w1, X0 = .UnaryOp .Not x w1 ∧ (chkE T N sc fb a x) = true := by
  unfold chkE at h; split at h
  all_goals first | (cases h; done) | skip
  all_goals rename_i h1
  all_goals first | (cases h1; done) | skip
  all_goals cases h1
  all_goals exact ⟨_, _, rfl, h⟩
theorem invE_ite {T N sc fb c a b X0} (h : chkE T N sc fb (.ite c a b) X0 = true) : ∃ t x y w1, X0 = .IfExp t x y w1 ∧ (chkE T N sc fb c t && tstOk c t && chkE T N sc fb a x && chkE T N sc fb b y) = true := by
  unfold chkE at h; split at h
  all_goals first | (cases h; done) | skip
  all_goals rename_i h1
  all_goals first | (cases h1; done) | skip
  all_goals cases h1
  all_goals exact ⟨_, _, _, _, rfl, h⟩
theorem invE_sub {T N sc fb a i X0} (h : chkE T N sc fb (.sub a i) X0 = true) : ∃ x y w1, X0 = .Subscript x y w1 ∧ (chkP T N sc fb a x && noSlice y && chkE T N sc fb i y) = true := by
  unfold chkE at h; split at h
  all_goals first | (cases h; done) | skip
  all_goals rename_i h1
  all_goals first | (cases h1; done) | skip
  all_goals cases h1
  all_goals exact ⟨_, _, _, rfl, h⟩
theorem invE_cut {T N sc fb a lo hi X0} (h : chkE T N sc fb (.cut a lo hi) X0 = true) : ∃ x l h w1 w2, X0 = .Subscript x (.Slice l h none w1) w2 ∧ (chkP T N sc fb a x && chkO T N sc fb lo l && chkO T N sc fb hi h) = true := by
  unfold chkE at h; split at h
  all_goals first | (cases h; done) | skip
  all_goals rename_i h1
  all_goals first | (cases h1; done) | skip
  all_goals cases h1
  all_goals exact ⟨_, _, _, _, _, rfl, h⟩
theorem invE_rev {T N sc fb a X0} (h : chkE T N sc fb (.rev a) X0 = true) : ∃ x w1 w2 w3 w4 w5, X0 = .Subscript x (.Slice none none (some (.UnaryOp .USub (.Constant (.int 1) w1 w2) w3)) w4) w5 ∧ (chkP T N sc fb a x) = true := by
  unfold chkE at h; split at h
  all_goals first | (cases h; done) | skip
  all_goals rename_i h1
  all_goals first | (cases h1; done) | skip
  all_goals cases h1
  all_goals exact ⟨_, _, _, _, _, _, rfl, h⟩
theorem invE_tup {T N sc fb es X0} (h : chkE T N sc fb (.tup es) X0 = true) : ∃ xs w1 w2, X0 = .Tuple xs w1 w2 ∧ (chkEs T N sc fb es xs) = true := by
  unfold chkE at h; split at h
  all_goals first | (cases h; done) | skip
  all_goals rename_i h1
  all_goals first | (cases h1; done) | skip
  all_goals cases h1
  all_goals exact ⟨_, _, _, rfl, h⟩
theorem invE_lst {T N sc fb es X0} (h : chkE T N sc fb (.lst es) X0 = true) : ∃ xs w1, X0 = .List xs w1 ∧ (chkEs T N sc fb es xs) = true := by
  unfold chkE at h; split at h
  all_goals first | (cases h; done) | skip
  all_goals rename_i h1
  all_goals first | (cases h1; done) | skip
  all_goals cases h1
  all_goals exact ⟨_, _, rfl, h⟩
theorem invE_dsp {T N sc fb ps X0} (h : chkE T N sc fb (.dsp ps) X0 = true) : ∃ ks vs w1, X0 = .Dict ks vs w1 ∧ (chkPs T N sc fb ps ks vs && (!ks.isEmpty || (nilP ps && vs.isEmpty)) && decide (ks.length ≤ 15)) = true := by
  unfold chkE at h; split at h
  all_goals first | (cases h; done) | skip
  all_goals rename_i h1
  all_goals first | (cases h1; done) | skip
  all_goals cases h1
  all_goals exact ⟨_, _, _, rfl, h⟩
theorem invE_lrg {T N sc fb a b X0} (h : chkE T N sc fb (.lrg a b) X0 = true) : ∃ x w1 y w2 u v w3 w4, X0 = .Call (.Name x w1) [.Call (.Name y w2) [u, v] [] w3] [] w4 ∧ (decide (x = "list") && glbB sc x && decide (y = "range") && glbB sc y && chkE T N sc fb a u && chkE T N sc fb b v && notStar u && notStar v) = true := by
  unfold chkE at h; split at h
  all_goals first | (cases h; done) | skip
  all_goals rename_i h1
  all_goals first | (cases h1; done) | skip
  all_goals cases h1
  all_goals exact ⟨_, _, _, _, _, _, _, _, rfl, h⟩
theorem invE_srs {T N sc fb a X0} (h : chkE T N sc fb (.srs a) X0 = true) : ∃ x w1 y w2 u w3 w4, X0 = .Call (.Name x w1) [.Call (.Name y w2) [u] [] w3] [] w4 ∧ (decide (x = "sorted") && glbB sc x && decide (y = "set") && glbB sc y && chkE T N sc fb a u && notStar u) = true := by
  unfold chkE at h; split at h
  all_goals first | (cases h; done) | skip
  all_goals rename_i h1
  all_goals first | (cases h1; done) | skip
  all_goals cases h1
  all_goals exact ⟨_, _, _, _, _, _, _, rfl, h⟩
theorem invE_bi {T N sc fb f qs X0} (h : chkE T N sc fb (.bi f qs) X0 = true) : ∃ x w1 e es w2, X0 = .Call (.Name x w1) (e :: es) [] w2 ∧ (decide (x = biName f) && glbB sc x && chkQs T N sc fb qs (e :: es)) = true := by
  unfold chkE at h; split at h
  all_goals first | (cases h; done) | skip
  all_goals rename_i h1
  all_goals first | (cases h1; done) | skip
  all_goals cases h1
  all_goals exact ⟨_, _, _, _, _, rfl, h⟩
theorem invE_call {T N sc fb f es ks perm X0} (h : chkE T N sc fb (.call f es ks perm) X0 = true) : ∃ x w1 args kws w2, X0 = .Call (.Name x w1) args kws w2 ∧ (decide (T.nm.lookup f = some x) && glbB sc x && okN x && chkEs T N sc fb es args && chkKs T N sc fb ks kws && (match knOf kws with | some kn => csB T.cs f args.length kn perm | none => false)) = true := by
  unfold chkE at h; split at h
  all_goals first | (cases h; done) | skip
  all_goals rename_i h1
  all_goals first | (cases h1; done) | skip
  all_goals cases h1
  all_goals exact ⟨_, _, _, _, _, rfl, h⟩
theorem invE_lc {T N sc fb own t it c elt X0} (h : chkE T N sc fb (.lc own t it c elt) X0 = true) : ∃ x tg iter ifs scope w1, X0 = .ListComp x [⟨tg, iter, ifs, 0⟩] scope w1 ∧ (chkI T N sc fb it iter && okIt it tg && notSet iter && blkC N sc scope (ownP N own) && chkT N (relS scope sc) (fun x => scope.names.lookup x == some .cell) t tg && (t.sl.all fun i => own.contains i) && chkC T N (relS scope sc) (fun x => scope.names.lookup x == some .cell) c ifs && chkE T N (relS scope sc) (fun x => scope.names.lookup x == some .cell) elt x) = true := by
  unfold chkE at h; split at h
  all_goals first | (cases h; done) | skip
  all_goals rename_i h1
  all_goals first | (cases h1; done) | skip
  all_goals cases h1
  all_goals exact ⟨_, _, _, _, _, _, rfl, h⟩
theorem invE_lcp {T N sc fb own t i c elt X0} (h : chkE T N sc fb (.lcp own t i c elt) X0 = true) : ∃ x tg y w1 ifs scope w2, X0 = .ListComp x [⟨tg, .Name y w1, ifs, 0⟩] scope w2 ∧ (decide (N[i]? = some y) && visB sc y && okN y && blkC N sc scope (ownP N own) && chkT N (relS scope sc) (fun x => scope.names.lookup x == some .cell) t tg && (t.sl.all fun i => own.contains i) && chkC T N (relS scope sc) (fun x => scope.names.lookup x == some .cell) c ifs && chkE T N (relS scope sc) (fun x => scope.names.lookup x == some .cell) elt x) = true := by
  unfold chkE at h; split at h
  all_goals first | (cases h; done) | skip
  all_goals rename_i h1
  all_goals first | (cases h1; done) | skip
  all_goals cases h1
  all_goals exact ⟨_, _, _, _, _, _, _, rfl, h⟩
theorem invE_pop {T N sc fb a X0} (h : chkE T N sc fb (.pop a) X0 = true) : ∃ x m ap p, X0 = .Call (.Attribute x m ap) [] [] p ∧ (decide (m = "pop") && chkE T N sc fb a x && noSup x && (ap.endLine == p.line)) = true := by
  unfold chkE at h; split at h
  all_goals first | (cases h; done) | skip
  all_goals rename_i h1
  all_goals first | (cases h1; done) | skip
  all_goals cases h1
  all_goals exact ⟨_, _, _, _, rfl, h⟩
theorem invE_app {T N sc fb a b X0} (h : chkE T N sc fb (.app a b) X0 = true) : ∃ x m ap y p, X0 = .Call (.Attribute x m ap) [y] [] p ∧ (decide (m = "append") && chkE T N sc fb a x && chkE T N sc fb b y && noSup x && (ap.endLine == p.line) && notStar y) = true := by
  unfold chkE at h; split at h
  all_goals first | (cases h; done) | skip
  all_goals rename_i h1
  all_goals first | (cases h1; done) | skip
  all_goals cases h1
  all_goals exact ⟨_, _, _, _, _, rfl, h⟩
theorem invE_att {T N sc fb c a f X0} (h : chkE T N sc fb (.att c a f) X0 = true) : ∃ x g w1, X0 = .Attribute x g w1 ∧ (decide (f = g) && naB T.na c f && chkE T N sc fb a x && noSup x) = true := by
  unfold chkE at h; split at h
  all_goals first | (cases h; done) | skip
  all_goals rename_i h1
  all_goals first | (cases h1; done) | skip
  all_goals cases h1
  all_goals exact ⟨_, _, _, rfl, h⟩
theorem invE_mk {T N sc fb c f es ks perm X0} (h : chkE T N sc fb (.mk c f es ks perm) X0 = true) : ∃ x w1 args kws w2, X0 = .Call (.Name x w1) args kws w2 ∧ (glbB sc x && okN x && chkEs T N sc fb es args && chkKs T N sc fb ks kws && (match knOf kws with | some kn => mkB T.mks x c f (args.length + 1) kn perm | none => false)) = true := by
  unfold chkE at h; split at h
  all_goals first | (cases h; done) | skip
  all_goals rename_i h1
  all_goals first | (cases h1; done) | skip
  all_goals cases h1
  all_goals exact ⟨_, _, _, _, _, rfl, h⟩
theorem invE_meth {T N sc fb c f m a es ks perm X0} (h : chkE T N sc fb (.meth c f m a es ks perm) X0 = true) : ∃ x g ap args kws p, X0 = .Call (.Attribute x g ap) args kws p ∧ (decide (m = g) && chkE T N sc fb a x && noSup x && (ap.endLine == p.line) && decide (args.length + kws.length < 29) && chkEs T N sc fb es args && chkKs T N sc fb ks kws && (match knOf kws with | some kn => mtB T.mts c m f (args.length + 1) kn perm | none => false)) = true := by
  unfold chkE at h; split at h
  all_goals first | (cases h; done) | skip
  all_goals rename_i h1
  all_goals first | (cases h1; done) | skip
  all_goals cases h1
  all_goals exact ⟨_, _, _, _, _, _, rfl, h⟩
theorem invE_isi {T N sc fb a t X0} (h : chkE T N sc fb (.isi a t) X0 = true) : ∃ x w1 y z w2 w3, X0 = .Call (.Name x w1) [y, .Name z w2] [] w3 ∧ (decide (x = "isinstance") && decide (z = tyName t) && glbB sc x && glbB sc z && chkP T N sc fb a y && notStar y) = true := by
  unfold chkE at h; split at h
  all_goals first | (cases h; done) | skip
  all_goals rename_i h1
  all_goals first | (cases h1; done) | skip
  all_goals cases h1
  all_goals exact ⟨_, _, _, _, _, _, rfl, h⟩
theorem invE_ch3 {T N sc fb o1 o2 o3 a b c d X0} (h : chkE T N sc fb (.ch3 o1 o2 o3 a b c d) X0 = true) : ∃ x p1 p2 p3 y z u w1, X0 = .Compare x [p1, p2, p3] [y, z, u] w1 ∧ (decide (o1 = p1) && decide (o2 = p2) && decide (o3 = p3) && chkE T N sc fb a x && chkE T N sc fb b y && chkE T N sc fb c z && chkE T N sc fb d u && !lastMarks [p1, p2, p3] [y, z, u]) = true := by
  unfold chkE at h; split at h
  all_goals first | (cases h; done) | skip
  all_goals rename_i h1
  all_goals first | (cases h1; done) | skip
  all_goals cases h1
  all_goals exact ⟨_, _, _, _, _, _, _, _, rfl, h⟩
theorem invE_lc2 {T N sc fb own own1 t it c t1 it1 c1 elt X0} (h : chkE T N sc fb (.lc2 own own1 t it c t1 it1 c1 elt) X0 = true) : ∃ x tg iter ifs tg1 iter1 ifs1 scope w1, X0 = .ListComp x [⟨tg, iter, ifs, 0⟩, ⟨tg1, iter1, ifs1, 0⟩] scope w1 ∧ (chkI T N sc fb it iter && okIt it tg && notSet iter && notSet iter1 && blkC N sc scope (ownP N own) && (own1.all fun i => own.contains i) && chkT N (relS scope sc) (fun x => scope.names.lookup x == some .cell) t tg && (t.sl.all fun i => own.contains i) && chkC T N (relS scope sc) (fun x => scope.names.lookup x == some .cell) c ifs && chkI T N (relS scope sc) (fun x => scope.names.lookup x == some .cell) it1 iter1 && okIt it1 tg1 && chkT N (relS scope sc) (fun x => scope.names.lookup x == some .cell) t1 tg1 && (t1.sl.all fun i => own1.contains i) && chkC T N (relS scope sc) (fun x => scope.names.lookup x == some .cell) c1 ifs1 && chkE T N (relS scope sc) (fun x => scope.names.lookup x == some .cell) elt x) = true := by
  unfold chkE at h; split at h
  all_goals first | (cases h; done) | skip
  all_goals rename_i h1
  all_goals first | (cases h1; done) | skip
  all_goals cases h1
  all_goals exact ⟨_, _, _, _, _, _, _, _, _, rfl, h⟩
theorem invP_pk {T N sc fb i X0} (h : chkP T N sc fb (.pk i) X0 = true) : ∃ x w1, X0 = .Name x w1 ∧ (decide (N[i]? = some x) && visB sc x && okN x) = true := by
  unfold chkP at h; split at h
  all_goals first | (cases h; done) | skip
  all_goals rename_i h1
  all_goals first | (cases h1; done) | skip
  all_goals cases h1
  all_goals exact ⟨_, _, rfl, h⟩
theorem invQ_nil {T N sc fb X0} (h : chkQs T N sc fb (.nil) X0 = true) : X0 = [] ∧ (true) = true := by
  unfold chkQs at h; split at h
  all_goals first | (cases h; done) | skip
  all_goals rename_i h1
  all_goals first | (cases h1; done) | skip
  all_goals cases h1
  all_goals exact ⟨rfl, h⟩
theorem invQ_cons {T N sc fb p ps X0} (h : chkQs T N sc fb (.cons p ps) X0 = true) : ∃ e es, X0 = e :: es ∧ (notStar e && chkP T N sc fb p e && chkQs T N sc fb ps es) = true := by
  unfold chkQs at h; split at h
  all_goals first | (cases h; done) | skip
  all_goals rename_i h1
  all_goals first | (cases h1; done) | skip
  all_goals cases h1
  all_goals exact ⟨_, _, rfl, h⟩
theorem invO_none {T N sc fb X0} (h : chkO T N sc fb (.none) X0 = true) : X0 = none ∧ (true) = true := by
  unfold chkO at h; split at h
  all_goals first | (cases h; done) | skip
  all_goals rename_i h1
  all_goals first | (cases h1; done) | skip
  all_goals cases h1
  all_goals exact ⟨rfl, h⟩
theorem invO_some {T N sc fb ex X0} (h : chkO T N sc fb (.some ex) X0 = true) : ∃ e, X0 = some e ∧ (chkE T N sc fb ex e) = true := by
  unfold chkO at h; split at h
  all_goals first | (cases h; done) | skip
  all_goals rename_i h1
  all_goals first | (cases h1; done) | skip
  all_goals cases h1
  all_goals exact ⟨_, rfl, h⟩
theorem invC_none {T N sc fb X0} (h : chkC T N sc fb (.none) X0 = true) : X0 = [] ∧ (true) = true := by
  unfold chkC at h; split at h
  all_goals first | (cases h; done) | skip
  all_goals rename_i h1
  all_goals first | (cases h1; done) | skip
  all_goals cases h1
  all_goals exact ⟨rfl, h⟩
theorem invC_some {T N sc fb ex X0} (h : chkC T N sc fb (.some ex) X0 = true) : ∃ e, X0 = [e] ∧ (chkE T N sc fb ex e && tstOk ex e) = true := by
  unfold chkC at h; split at h
  all_goals first | (cases h; done) | skip
  all_goals rename_i h1
  all_goals first | (cases h1; done) | skip
  all_goals cases h1
  all_goals exact ⟨_, rfl, h⟩
theorem invEs_nil {T N sc fb X0} (h : chkEs T N sc fb (.nil) X0 = true) : X0 = [] ∧ (true) = true := by
  unfold chkEs at h; split at h
  all_goals first | (cases h; done) | skip
  all_goals rename_i h1
  all_goals first | (cases h1; done) | skip
  all_goals cases h1
  all_goals exact ⟨rfl, h⟩
theorem invEs_cons {T N sc fb p ps X0} (h : chkEs T N sc fb (.cons p ps) X0 = true) : ∃ e es, X0 = e :: es ∧ (notStar e && chkE T N sc fb p e && chkEs T N sc fb ps es) = true := by
  unfold chkEs at h; split at h
  all_goals first | (cases h; done) | skip
  all_goals rename_i h1
  all_goals first | (cases h1; done) | skip
  all_goals cases h1
  all_goals exact ⟨_, _, rfl, h⟩
theorem invKs_nil {T N sc fb X0} (h : chkKs T N sc fb (.nil) X0 = true) : X0 = [] ∧ (true) = true := by
  unfold chkKs at h; split at h
  all_goals first | (cases h; done) | skip
  all_goals rename_i h1
  all_goals first | (cases h1; done) | skip
  all_goals cases h1
  all_goals exact ⟨rfl, h⟩
theorem invKs_cons {T N sc fb p ps X0} (h : chkKs T N sc fb (.cons p ps) X0 = true) : ∃ w1 e w2 es, X0 = ⟨w1, e, w2⟩ :: es ∧ (chkE T N sc fb p e && chkKs T N sc fb ps es) = true := by
  unfold chkKs at h; split at h
  all_goals first | (cases h; done) | skip
  all_goals rename_i h1
  all_goals first | (cases h1; done) | skip
  all_goals cases h1
  all_goals exact ⟨_, _, _, _, rfl, h⟩
theorem invPs_nil {T N sc fb X0 X1} (h : chkPs T N sc fb (.nil) X0 X1 = true) : X0 = [] ∧ X1 = [] ∧ (true) = true := by
  unfold chkPs at h; split at h
  all_goals first | (cases h; done) | skip
  all_goals rename_i h1
  all_goals first | (cases h1; done) | skip
  all_goals cases h1
  all_goals exact ⟨rfl, rfl, h⟩
theorem invPs_cons {T N sc fb k v ps X0 X1} (h : chkPs T N sc fb (.cons k v ps) X0 X1 = true) : ∃ a ks b vs, X0 = some a :: ks ∧ X1 = b :: vs ∧ (chkE T N sc fb k a && chkE T N sc fb v b && chkPs T N sc fb ps ks vs) = true := by
  unfold chkPs at h; split at h
  all_goals first | (cases h; done) | skip
  all_goals rename_i h1
  all_goals first | (cases h1; done) | skip
  all_goals cases h1
  all_goals exact ⟨_, _, _, _, rfl, rfl, h⟩
theorem invI_enm {T N sc fb a X0} (h : chkI T N sc fb (.enm a) X0 = true) : ∃ x w1 y w2, X0 = .Call (.Name x w1) [y] [] w2 ∧ (decide (x = "enumerate") && glbB sc x && chkE T N sc fb a y && notStar y) = true := by
  unfold chkI at h; split at h
  all_goals first | (cases h; done) | skip
  all_goals rename_i h1
  all_goals first | (cases h1; done) | skip
  all_goals cases h1
  all_goals exact ⟨_, _, _, _, rfl, h⟩
theorem invI_zps {T N sc fb a b X0} (h : chkI T N sc fb (.zps a b) X0 = true) : ∃ x w1 y z kw w2 w3 w4 w5, X0 = .Call (.Name x w1) [y, z] [⟨some kw, .Constant (.bool true) w2 w3, w4⟩] w5 ∧ (decide (x = "zip") && decide (kw = "strict") && glbB sc x && chkE T N sc fb a y && chkE T N sc fb b z && notStar y && notStar z) = true := by
  unfold chkI at h; split at h
  all_goals first | (cases h; done) | skip
  all_goals rename_i h1
  all_goals first | (cases h1; done) | skip
  all_goals cases h1
  all_goals exact ⟨_, _, _, _, _, _, _, _, _, rfl, h⟩
theorem invI_rng1 {T N sc fb a X0} (h : chkI T N sc fb (.rng1 a) X0 = true) : ∃ x w1 y w2, X0 = .Call (.Name x w1) [y] [] w2 ∧ (decide (x = "range") && glbB sc x && chkE T N sc fb a y && notStar y) = true := by
  unfold chkI at h; split at h
  all_goals first | (cases h; done) | skip
  all_goals rename_i h1
  all_goals first | (cases h1; done) | skip
  all_goals cases h1
  all_goals exact ⟨_, _, _, _, rfl, h⟩
theorem invI_rng2 {T N sc fb a b X0} (h : chkI T N sc fb (.rng2 a b) X0 = true) : ∃ x w1 y z w2, X0 = .Call (.Name x w1) [y, z] [] w2 ∧ (decide (x = "range") && glbB sc x && chkE T N sc fb a y && chkE T N sc fb b z && notStar y && notStar z) = true := by
  unfold chkI at h; split at h
  all_goals first | (cases h; done) | skip
  all_goals rename_i h1
  all_goals first | (cases h1; done) | skip
  all_goals cases h1
  all_goals exact ⟨_, _, _, _, _, rfl, h⟩
end Wf
set_option Elab.async false
set_option linter.all false
/-! x, o.f = e; o.f += e; xs.extend(e) -/
namespace Wf
open PySem L2
section
variable {X : Cx} {G : Cr} {C : Orc} {e o : Expr} {ex eo : E} {pos : Pos}
def gAtt (K : PySem.W.Frag) (ta : TE) (f : Str) : TG := fun v σ H Q => ta σ H fun x H1 => ∃ a Cc dx fs, x = .ref a ∧ H1 a = some (.ins Cc dx fs) ∧ Cls K Cc ∧ NoAttr K Cc f ∧ fs.length < 1000 ∧ Q σ (upd H1 a (.ins Cc dx (putF f v fs)))
theorem pg_att {ta : TE} {f : Str} (ho : PE X o ta) : PG X (.Attribute o f pos) (gAtt X.K ta f) := by
  refine ⟨fun pins s σ H v u Q I r h => ?_⟩
  rw [assign_Attribute]
  refine wpAny_bind (wpAny_holding (thn (ho.run pins s σ H _ I h) fun ov s1 ⟨x, H1, I1, r1, a, Cc, dx, fs, ez, ea, c, n, l, q1⟩ => ?_))
  subst ez
  obtain rfl : ov = Value.ref a := r1
  refine wpAny_bind (wpAny_standAt (wpAny_bind (wpAny_holding (setattr_ok I1 ea c n l r fun s3 I3 => ?_))))
  exact wpAny_release ⟨σ, _, I3, q1⟩
theorem sim_asa {c i k : Nat} {f x : Str} {px pa pt : Pos} (hcl : ∀ Cc, G.cl c = some Cc → Cls X.K Cc ∧ NoAttr X.K Cc f) (hc : X.calm = true) (hK : X.K = G.K) (hN : X.N.Nodup) (hi : X.N[i]? = some x) (hx : Loc X.env.scope x) (hf : X.fn x = true ∨ X.env.scope.names.lookup x = some .local)
    (he : PE X e (tE G C ex)) (ho : PE X o (tE G C eo)) (hs : swapsWithSole [.Tuple [.Name x px, .Attribute o f pa] k pt] e pos.line X.env = pure false) (hw : swappedStores [.Tuple [.Name x px, .Attribute o f pa] k pt] e X.env = pure none) :
    PS X (.Assign [.Tuple [.Name x px, .Attribute o f pa] k pt] e pos) (tS G C (.asa c i eo f ex)) :=
  impS (ps_asg he (pg_tup (n := 2) hc (pgs_cons (pg_name hN hi hx hf) (pgs_cons (pg_att ho) pgs_nil))) hs hw) fun De σ H ⟨H0, ρ0, B0, ms, env, S, ρ, B, fl, r, ev, q⟩ => by
    rw [evS] at ev
    obtain ⟨⟨d, S1⟩, e1, e2⟩ := Option.bind_eq_some_iff.mp ev
    obtain ⟨⟨y1, y2⟩, e3, e4⟩ := Option.bind_eq_some_iff.mp e2
    obtain ⟨⟨d2, S2⟩, e5, e6⟩ := Option.bind_eq_some_iff.mp e4
    obtain ⟨⟨j, fs⟩, e7, e8⟩ := Option.bind_eq_some_iff.mp e6
    have hd : d = .tup [y1, y2] := by
      have e3 : pairD d = some (y1, y2) := e3
      unfold pairD at e3
      split at e3
      · cases e3; rfl
      · cases e3
    split at e8
    · rename_i hz
      cases e8
      obtain ⟨h1, h2⟩ := refI_of e7
      have h1 : d2 = .ref j := h1
      refine ⟨env, S, ρ, B, B0, d, S1, r.sr, r.er, e1, fun v H1 ρ1 x1 s1 r1 => ?_⟩
      rw [hd] at r1
      cases r1 with
      | tup hq rr =>
        cases rr with
        | cons ra rr =>
          cases rr with
          | cons rb rr =>
            cases rr
            refine ⟨_, _, rfl, by rw [hK]; exact hq, rfl, _, _, rfl, ?_⟩
            refine ⟨_, _, rfl, setS env i y1, S1, ρ1, B, B0, d2, S2, s1, (r.er.ext r.sr x1).set ra, e5, fun w H2 ρ2 x2 s2 r2 => ?_⟩
            rw [h1] at r2
            obtain ⟨ad, Cc, dx, gs, rfl, ha, g1, g2, g3⟩ := s2.ins h2 r2
            refine ⟨ad, Cc, dx, gs, rfl, g1, (hcl Cc g2).1, (hcl Cc g2).2, by rw [g3.len]; exact hz, rfl, ?_⟩
            obtain ⟨s4, x4⟩ := s2.write (o := .ins Cc dx (putF f _ gs)) (ob := .ins c (putD f y2 fs)) ha h2 trivial fun k => .ins upd_same g2 ((VRf.put (rb.ext s1 x2) g3).mono k)
            have R1 := r.step x1 s1
            exact q _ _ _ _ (RS.step (RS.step ⟨s1, (r.er.ext r.sr x1).set ra, r.sub, r.new, r.ext.trans x1, fun m h => (r.mks m h).ext r.sr x1⟩ x2 s2) x4 s4)
    · cases e8
theorem sim_aug {c : Nat} {f : Str} {pa : Pos} (hcl : ∀ Cc, G.cl c = some Cc → Cls X.K Cc ∧ NoAttr X.K Cc f) (he : PE X e (tE G C ex)) (ho : PE X o (tE G C eo)) :
    PS X (.AugAssign (.Attribute o f pa) .Add e pos) (tS G C (.aug c eo f ex)) :=
  impS (ps_fldaug ho he in_add) fun De σ H ⟨H0, ρ0, B0, ms, env, S, ρ, B, fl, r, ev, q⟩ => by
    rw [evS] at ev
    obtain ⟨⟨d, S1⟩, e1, e2⟩ := Option.bind_eq_some_iff.mp ev
    obtain ⟨⟨j, fs⟩, e3, e4⟩ := Option.bind_eq_some_iff.mp e2
    obtain ⟨u, e5, e6⟩ := Option.bind_eq_some_iff.mp e4
    obtain ⟨⟨d2, S2⟩, e7, e8⟩ := Option.bind_eq_some_iff.mp e6
    obtain ⟨z, e9, e10⟩ := Option.bind_eq_some_iff.mp e8
    obtain ⟨⟨j2, fs2⟩, e11, e12⟩ := Option.bind_eq_some_iff.mp e10
    split at e12
    · rename_i hz
      cases e12
      obtain ⟨h1, h2⟩ := refI_of e3
      obtain ⟨h3, h4⟩ := refI_of e11
      have h1 : d = .ref j := h1
      have h3 : j = j2 := by injection h3
      subst h3
      have hadd : ∃ a b, u = .int a ∧ d2 = .int b ∧ z = .int (a + b) := by
        have e9 : addI u d2 = some z := e9
        unfold addI at e9
        split at e9
        · cases e9; exact ⟨_, _, rfl, rfl, rfl⟩
        · cases e9
      obtain ⟨a, b, rfl, rfl, rfl⟩ := hadd
      refine ⟨env, S, ρ, B, B0, d, S1, r.sr, r.er, e1, fun v H1 ρ1 x1 s1 r1 => ?_⟩
      rw [h1] at r1
      obtain ⟨ad, Cc, dx, gs, rfl, ha, g1, g2, g3⟩ := s1.ins h2 r1
      obtain ⟨v, l1, l2⟩ := g3.look e5
      cases l2
      refine ⟨ad, Cc, dx, gs, _, rfl, g1, (hcl Cc g2).1, (hcl Cc g2).2, l1, env, S1, ρ1, B, B0, _, S2, s1, r.er.ext r.sr x1, e7, fun w H2 ρ2 x2 s2 r2 => ?_⟩
      cases r2
      have ha2 : ρ2[j]? = some ad := by
        obtain ⟨nn, hn, _⟩ := x2.new
        rw [hn, List.getElem?_append_left (List.getElem?_eq_some_iff.mp ha).1]
        exact ha
      obtain ⟨ad', Cc', dx', gs', hv, ha', g1', g2', g3'⟩ := s2.ins h4 (.ref ha2)
      have hv : ad = ad' := by injection hv
      subst hv
      have hC : Cc = Cc' := by rw [g2] at g2'; injection g2'
      subst hC
      refine ⟨_, _, rfl, rfl, dx', gs', g1', by rw [g3'.len]; exact hz, ?_⟩
      obtain ⟨s4, x4⟩ := s2.write (o := .ins Cc dx' (putF f (.int (a + b)) gs')) (ob := .ins c (putD f (.int (a + b)) fs2)) ha2 h4 trivial fun k => .ins upd_same g2 ((VRf.put (.int _) g3').mono k)
      exact q _ _ _ _ ((r.step (x1.trans x2) s2).step x4 s4)
    · cases e12
theorem sim_xtS {b : Expr} {eb : E} {x : Str} {apos pn cpos : Pos} {n : Nat} (hN : X.N[n]? = some x) (hv : Vis X.env.scope x) (hd : (x == ("__debug__" : Str)) = false) (hcd : (x == ("__classdict__" : Str)) = false) (hb : PE X b (tE G C eb)) (hl : (apos.endLine == cpos.line) = true) (hst : notStar b = true) :
    PS X (.Expr (.Call (.Attribute (.Name x pn) "extend" apos) [b] [] cpos) pos) (tS G C (.xtS n eb)) := by
  have hs1 : starEach [b] X.env = [(false, eval b X.env)] := star_cons hst
  refine impS (ps_expr (pe_bm PySem.F.plainAttrs_list PySem.F.slot_list_extend PySem.F.type_list_extend mt_extend (pe_var hN hv hd hcd) (sim_cons hb sim_nil hs1) rfl (by rw [hs1]; rfl) hl hs1 rfl) rfl) fun De σ H ⟨H0, ρ0, B0, ms, env, S, ρ, B, fl, r, ev, q⟩ => ?_
  rw [evS] at ev
  obtain ⟨⟨d, S1⟩, e1, e2⟩ := Option.bind_eq_some_iff.mp ev
  split at e2
  · rename_i ds ys hx hy
    have hy : d = .lst ys := hy
    split at e2
    · rename_i hz
      cases e2
      cases r.er.sl n _ hx with
      | @ol a _ vs es hb' hn hh rr =>
        refine ⟨_, es, .inl ⟨rfl, _, SqL.of hh⟩, env, S, ρ, B, B0, [d], S1, r.sr, r.er, by rw [evEs, e1]; rfl, fun ws H1 ρ1 x1 s1 r1 => ?_⟩
        rw [hy] at r1
        cases r1 with
        | cons ra rb =>
          cases rb
          have h3 : H1 a = some (.lst vs) := x1.keep _ _ hh (r.sr.bt a hb').2
          cases ra with
          | lst hq rq =>
            refine ⟨_, _, _, _, rfl, rfl, h3, hq.1, by rw [rr.length, rq.length]; exact hz, ?_⟩
            exact q _ _ _ _ ((r.step x1 s1).wrote hx rfl es hb' hn (by rw [h3]; trivial) rfl fun kk => .ol es hb' hn upd_same (VRs.mono kk _ _ ((VRs.mono (x1.keeps r.sr) _ _ rr).append rq)))
    · cases e2
  · cases e2
end
end Wf
set_option Elab.async false
set_option linter.all false
/-! list(range(a, b)) -/
namespace Wf
open PySem L2
section
variable {X : Cx}
def rListR : List V → Hp → VK → Prop := fun xs H Q => ∃ p lo hi, xs = [.ref p] ∧ H p = some (.rng lo hi) ∧ (-(2 ^ 62) ≤ lo ∧ lo < 2 ^ 62) ∧ (-(2 ^ 62) ≤ hi ∧ hi < 2 ^ 62) ∧ hi - lo ≤ 1000000 ∧ ∀ q, H q = none → Q (.ref q) (upd H q (.lst ((List.range (hi - lo).toNat).map fun (k : Nat) => V.int (lo + (k : Int)))))
theorem cr_listRng (hc : X.calm = true) : CallR X (.type "list") rListR := by
  intro pins s σ H xs us Q I r h
  obtain ⟨p, lo, hi, e, hk, l1, l2, l3, q⟩ := h
  subst e
  obtain ⟨u, eu, rx⟩ := vals1 r
  subst eu
  obtain rfl : u = Value.ref p := rx
  obtain ⟨t1, t2, t3, ho⟩ := I.hok p _ hk
  have hn : Builtin.Range.rangeSize lo hi 1 = ((hi - lo).toNat : Int) := by
    unfold Builtin.Range.rangeSize
    rw [if_pos (by decide)]
    split
    · rw [Int.ediv_one]; omega
    · omega
  refine call_list_range (n := (hi - lo).toNat) (I.ok.hd hc) ho (small_one (by omega) (by omega) (by omega) (by omega)) hn (by omega) fun h' tk acc' c' hkeep hS hacc => ?_
  refine ⟨.ref s.heap.objs.size, upd H s.heap.objs.size _, I.laid hkeep (Nat.le_refl _) (show ObjOk X.prog X.w _ _ _ (.lst ((List.range (hi - lo).toNat).map fun (k : Nat) => V.int (lo + (k : Int)))) from ⟨?_, acc'.toList, c', ?_, ?_⟩), rfl, q _ (I.hok.fresh (Nat.le_refl _))⟩
  · rw [List.length_map, List.length_range, sizeLine_eq]; omega
  · have el : acc'.toList.length = acc'.size := by simp
    refine vals_of_at (by rw [List.length_map, List.length_range, el, hacc.1]) fun j x w h1 h2 => ?_
    obtain ⟨t, hw⟩ := hacc.2 j w (by rw [← Array.getElem?_toList]; exact h2)
    rw [List.getElem?_map] at h1
    obtain ⟨k, hk1, hk2⟩ := Option.map_eq_some_iff.mp h1
    have hkj : k = j := by
      rw [List.getElem?_eq_some_iff] at hk1
      obtain ⟨_, hk1⟩ := hk1
      rw [List.getElem_range] at hk1
      exact hk1.symm
    subst hkj
    rw [← hk2, hw]
    exact ⟨t, by rw [Int.mul_one]⟩
  · simpa using hS
variable {G : Cr} {C : Orc} {a b : Expr} {ea eb : E} {pos p1 p2 pos2 : Pos}
theorem rng_VRs {H : Hp} {ρ B : List Addr} {lo hi : Int} : VRs G H ρ B (rangeD lo hi) ((List.range (hi - lo).toNat).map fun (k : Nat) => V.int (lo + (k : Int))) := by
  unfold rangeD
  generalize List.range (hi - lo).toNat = l
  induction l with
  | nil => exact .nil
  | cons x l ih => exact .cons (.int _) ih
theorem sim_lrg (hc : X.calm = true) (glL : Gl X "list") (hmL : X.mg "list" = none) (glR : Gl X "range") (hmR : X.mg "range" = none) (ha : PE X a (tE G C ea)) (hb : PE X b (tE G C eb)) (hs : starEach [a, b] X.env = [(false, eval a X.env), (false, eval b X.env)]) (hs2 : starEach [b] X.env = [(false, eval b X.env)]) :
    PE X (.Call (.Name "list" p1) [.Call (.Name "range" p2) [a, b] [] pos2] [] pos) (tE G C (.lrg ea eb)) := by
  have hr := pe_callTy (T := "range") (pos := pos2) (p := p2) cr_range2 glR hmR (by decide +kernel) (sim_cons ha (sim_cons hb sim_nil hs2) (hs.trans (by rw [hs2]))) (by decide) (by decide) (hs.trans (by rw [hs2])) (by rw [hs2]; rfl)
  refine impE (pe_callTy (T := "list") (cr_listRng hc) glL hmL (by decide +kernel) (pa_cons hr pa_nil rfl) (by decide) (by decide) rfl rfl) fun σ H Q ⟨env, S, ρ, B, B0, d, S', s, er, ev, q⟩ => ?_
  rw [evE] at ev
  obtain ⟨⟨d1, S1⟩, ⟨d2, S2⟩, e1, e2, e3⟩ := bind2 ev
  obtain ⟨i, e4, e5⟩ := Option.bind_eq_some_iff.mp e3
  obtain ⟨j, e6, e7⟩ := Option.bind_eq_some_iff.mp e5
  have e4 : int? d1 = some i := e4
  have e6 : int? d2 = some j := e6
  split at e7
  · rename_i hz
    cases e7
    simp only [Bool.and_eq_true, decide_eq_true_eq] at hz
    refine ⟨env, S, ρ, B, B0, [d1, d2], S2, s, er, by rw [evEs, e1]; simp only [Option.bind_some, Option.bind]; rw [evEs, e2]; rfl, fun vs H1 ρ1 x1 s1 r1 => ?_⟩
    cases d1 <;> first | (cases e4; done) | skip
    cases d2 <;> first | (cases e6; done) | skip
    cases e4
    cases e6
    cases r1 with
    | cons ra rb =>
      cases rb with
      | cons rc rd =>
        cases rd
        cases ra
        cases rc
        exact ⟨_, _, rfl, fun p hp => ⟨p, _, _, rfl, upd_same, sm62 hz.1.1, sm62 hz.1.2, hz.2, fun r hr => new_lst (s1.laid hp) rng_VRs hr fun v H' x' s' r' => q _ _ _ ((x1.trans (Ext.laid hp)).trans x') s' r'⟩⟩
  · cases e7
end
end Wf
set_option Elab.async false
set_option linter.all false
set_option maxRecDepth 100000
set_option maxHeartbeats 4000000
/-! set(xs) of a list of whole numbers, sorted -/
namespace Wf
open PySem L2 PySem.Spec PyProof.Rows
/-- what stands at a set's address when it is new -/
abbrev nst (w : World) : Obj := { cls := .type "set", dict := none, data := .set #[] 0 (.fresh 0 0 (!w.params.followText "set-order")) }
abbrev hst (w : World) (h : Heap) : Heap := h.push (nst w)
section
variable {P : Program} {w : World} {A : Around} {E : Value → Shared → Prop} {s : Shared}
theorem set_of_list {l : Addr} {its : Array Value} (ns : List Int) {Q : Value → Shared → Prop} (hh : A.handled = none) (hl : s.heap.IsList l its) (hit : IntsAre its.toList ns) (hb : ns.length + 1 < scanBound) (q : ∀ (h' : Heap) (tk c : Nat), SetR w h' s.heap.objs.size (fun j => decide (j ∈ ns)) c → c ≤ ns.length → (∀ b o, s.heap.get? b = some o → h'.get? b = some o) → Q (.ref s.heap.objs.size) { s with heap := h', toks := tk }) : wpAny (model P w) A (call (.type "set") [.ref l]) Q E s := by
  have zn : its.size = ns.length := by have := IntsAre.length hit; simpa using this
  obtain ⟨c0, tl, m1⟩ := F.called_set.mro; have m2 := F.called_set.made; have m3 := F.called_set.sub
  refine wpAny_call (codeAny_of_tree (show wpAny _ _ (callAny (.type "set") _) _ _ _ from wpAny_pure ⟨Code.quiet_builtin _ (by decide +kernel), codeAny_builtin F.entry_type_call ?_⟩))
  rw [Around.under_plain (weight_type_call_type "set" [.ref l] []) rfl]; have m4 := F.called_set.notType; have m5 := F.called_set.canCreate; have m6 := F.typeCall_set_1 (.ref l)
  repeat (any_goals (first | assumption | wp_step))

  refine codeAny_mono (code_set_led1 (.ref l) (E := E) (Q₁ := fun obj s1 => obj = .ref s.heap.objs.size ∧ s1 = { s with heap := hst w s.heap }) ⟨rfl, rfl⟩) fun r s1 hr => ?_
  cases r with
  | error e => exact hr
  | ok fl =>
    cases fl with
    | ret obj =>
      obtain ⟨rfl, rfl⟩ := hr
      have g0 : (hst w s.heap).get? s.heap.objs.size = some (nst w) := Heap.get?_push_size _ rfl
      have g1 : Shared.TypeIs { s with heap := hst w s.heap } (.ref s.heap.objs.size) "set" := ⟨_, g0, rfl⟩
      have m7 := F.called_set.init.lookup; have m8 := F.called_set.init.bind (.ref s.heap.objs.size)
      repeat (any_goals (first | assumption | wp_step))

      refine codeAny_mono (codeAny_call_builtin (R := wants (fun r s2 => r = .none ∧ ∃ h' tk c, s2 = { s with heap := h', toks := tk } ∧ SetR w h' s.heap.objs.size (fun j => decide (j ∈ ns)) c ∧ c ≤ ns.length ∧ (∀ b o, s.heap.get? b = some o → h'.get? b = some o)) E) F.called_set.init.plain F.entry_set_init (check_set_init_1 g1 ?_)) fun r2 s2 hr2 => ?_
      · obtain ⟨ob, hob, k1, nl, k2⟩ := hl
        obtain ⟨bc, bd, bt, bs⟩ := ob
        simp only at k1 k2; subst k1 k2
        have hob2 : (hst w s.heap).get? l = some { cls := .type "list", dict := bd, data := .seq its nl, slots := bs } := Heap.get?_push_of_some _ hob
        have u1 := F.sub_list_set; have u2 := F.sub_list_frozenset; have u3 : (Value.type "list" == Value.type "dict") = false := by decide
        have hl1 : (hst w s.heap).IsList l its := ⟨_, hob2, rfl, nl, rfl⟩
        unfold Builtin.«set.__init__» noKeywords Builtin.Frozenset.updateFrom; generalize hPI : pyIter = PI
        wp_walk
        subst hPI

        refine wpAny_pyIter_list hl1 (wpAny_bind (wpAny_runValue ?_))
        have ll : l < s.heap.objs.size := Heap.lt_size hob
        have h3 : A.in1.in1.in1.handled = none := by simp [hh]
        have ne1 : l ≠ (hst w s.heap).objs.size := by rw [Heap.size_push]; exact Nat.ne_of_lt (Nat.lt_succ_of_lt ll)
        have ne2 : s.heap.objs.size ∉ [(hst w s.heap).objs.size, l] := by
          rw [Heap.size_push]
          intro z
          simp only [List.mem_cons, List.not_mem_nil, or_false] at z
          exact z.elim (Nat.ne_of_lt (Nat.lt_succ_self _)) (Nat.ne_of_gt ll)
        have iv : ∀ (i : Nat) (v : Value), its[i]? = some v → ∃ k t, ns[i]? = some k ∧ v = .int k t := fun i v hv => by
          have hi : i < ns.length := by rw [← zn]; exact (Array.getElem?_eq_some_iff.mp hv).1
          obtain ⟨t, e⟩ := IntsAre.int_at hit i v (by rw [Array.getElem?_toList]; exact hv)
          exact ⟨ns[i], t, List.getElem?_eq_getElem hi, by rw [e, List.getD_eq_getElem?_getD, List.getElem?_eq_getElem hi] <;> rfl⟩
        refine set_update_ints ((Walks.list h3 _ l ne1 its).toS) s.heap.objs.size ne2 ns zn hb iv (its.size - 0) 0 _ (by omega) (Nat.zero_le _) ⟨⟨_, Heap.get?_push_size _ rfl, rfl, rfl⟩, (hl1.push _)⟩ ⟨0, Nat.le_refl 0, setR_new_at (Heap.get?_push_of_some _ g0)⟩ ?_
        intro s3 c3 hm hc3 hS3
        obtain ⟨h4, g4, d4, t4, o4⟩ := s3
        have eg : g4 = s.gens := hm.gens; have ed : d4 = s.drawn := hm.drawn; have eo : o4 = s.os := hm.os
        subst eg ed eo
        show wpAny _ _ _ _ _ _
        refine wpAny_pure (show wpAny _ _ (ret Value.none) _ _ _ from ?_)
        rw [zn] at hc3
        refine wpAny_pure ⟨rfl, h4, t4, c3, rfl, hS3, hc3, fun b o e => ?_⟩
        have b0 : b < s.heap.objs.size := Heap.lt_size e
        have b2 : b ≠ (hst w s.heap).objs.size := by rw [Heap.size_push]; exact Nat.ne_of_lt (Nat.lt_succ_of_lt b0)
        exact hm.heap b o (by intro z; simp only [List.mem_cons, List.not_mem_nil, or_false] at z; exact z.elim (Nat.ne_of_lt b0) b2) (Heap.get?_push_of_some _ (Heap.get?_push_of_some _ e))
      · cases r2 with
        | error e => exact hr2
        | ok f2 =>
          cases f2 with
          | ret r =>
            obtain ⟨rfl, h', tk, c', rfl, x1, x2, x3⟩ := hr2
            repeat (any_goals (first | assumption | wp_step))
            exact q _ _ _ x1 x2 x3
          | _ => exact hr2.elim
    | _ => exact hr.elim
end
section
variable {X : Cx}
def rSetL (K : PySem.W.Frag) (w : World) : List V → Hp → VK → Prop := fun xs H Q => ∃ (l : Addr) (ns : List Int), xs = [.ref l] ∧ SqL K H l (ns.map V.int) ∧ ns.length ≤ 60 ∧ ∀ p c, H p = none → c ≤ ns.length → Q (.ref p) (upd H p (SetO w p (fun j => decide (j ∈ ns)) c))
theorem cr_setL (hc : X.calm = true) : CallR X (.type "set") (rSetL X.K X.w) := by
  intro pins s σ H xs us Q I r h
  obtain ⟨l, ns, rfl, hs, hn, q⟩ := h
  obtain ⟨its, rv, hl, hz⟩ := I.list hs
  rw [Vals.ref1 r]
  refine set_of_list ns (I.ok.hd hc) hl.isList (by simpa using rv.ints) (by unfold scanBound; omega) fun h' tk c R hcn kp => ?_
  exact ⟨.ref _, upd H s.heap.objs.size (SetO X.w s.heap.objs.size (fun j => decide (j ∈ ns)) c), I.laid (t' := tk) kp (Nat.le_refl _) (setO_new R), rfl, q _ c (I.hok.fresh (Nat.le_refl _)) hcn⟩
theorem insI_mem {k x : Int} : ∀ {l : List Int}, x ∈ insI k l ↔ x = k ∨ x ∈ l
  | [] => by rw [insI]; simp
  | y :: r => by
    rw [insI]
    split
    · simp
    · split
      · rename_i h; subst h; simp
      · rw [List.mem_cons, insI_mem (l := r), List.mem_cons]
        constructor
        · rintro (h | h | h)
          · exact .inr (.inl h)
          · exact .inl h
          · exact .inr (.inr h)
        · rintro (h | h | h)
          · exact .inr (.inl h)
          · exact .inl h
          · exact .inr (.inr h)
theorem insI_lt {k : Int} : ∀ {l : List Int}, l.Pairwise (· < ·) → (insI k l).Pairwise (· < ·)
  | [], _ => by rw [insI]; simp
  | y :: r, h => by
    rw [List.pairwise_cons] at h
    rw [insI]
    split
    · rename_i c
      rw [List.pairwise_cons, List.pairwise_cons]
      refine ⟨fun z hz => ?_, h⟩
      rcases List.mem_cons.mp hz with rfl | hz
      · exact c
      · have := h.1 z hz; omega
    · split
      · rw [List.pairwise_cons]; exact h
      · rename_i c1 c2
        rw [List.pairwise_cons]
        refine ⟨fun z hz => ?_, insI_lt h.2⟩
        rcases insI_mem.mp hz with rfl | hz
        · omega
        · exact h.1 z hz
theorem srtI_mem {x : Int} : ∀ {l : List Int}, x ∈ srtI l ↔ x ∈ l
  | [] => by rw [srtI]
  | y :: r => by rw [srtI, insI_mem, srtI_mem, List.mem_cons]
theorem srtI_lt : ∀ {l : List Int}, (srtI l).Pairwise (· < ·)
  | [] => by rw [srtI]; simp
  | y :: r => by rw [srtI]; exact insI_lt srtI_lt
theorem lt_uniq : ∀ {l m : List Int}, l.Pairwise (· < ·) → m.Pairwise (· < ·) → (∀ k, k ∈ l ↔ k ∈ m) → l = m
  | [], [], _, _, _ => rfl
  | [], y :: r, _, _, h => by have := (h y).mpr List.mem_cons_self; cases this
  | x :: l, [], _, _, h => by have := (h x).mp List.mem_cons_self; cases this
  | x :: l, y :: m, h1, h2, h => by
    rw [List.pairwise_cons] at h1 h2
    have e : x = y := by
      have a1 := (h x).mp List.mem_cons_self
      have a2 := (h y).mpr List.mem_cons_self
      rcases List.mem_cons.mp a1 with e | a1
      · exact e
      · rcases List.mem_cons.mp a2 with e | a2
        · exact e.symm
        · have := h2.1 x a1; have := h1.1 y a2; omega
    subst e
    rw [lt_uniq h1.2 h2.2 fun k => ?_]
    constructor
    · intro hk
      rcases List.mem_cons.mp ((h k).mp (List.mem_cons_of_mem _ hk)) with e | z
      · subst e; have := h1.1 k hk; omega
      · exact z
    · intro hk
      rcases List.mem_cons.mp ((h k).mpr (List.mem_cons_of_mem _ hk)) with e | z
      · subst e; have := h2.1 k hk; omega
      · exact z
variable {G : Cr} {C : Orc} {a : Expr} {ea : E} {pos p1 p2 pos2 : Pos}
theorem VRs.ofInts {H : Hp} {ρ B : List Addr} : ∀ {ns : List Int}, VRs G H ρ B (ns.map D.int) (ns.map V.int)
  | [] => .nil
  | n :: ns => .cons (.int n) VRs.ofInts
theorem sim_srs (hc : X.calm = true) (hw : X.w = G.w) (glL : Gl X "sorted") (hmL : X.mg "sorted" = none) (glR : Gl X "set") (hmR : X.mg "set" = none) (ha : PE X a (tE G C ea)) (hs : starEach [a] X.env = [(false, eval a X.env)]) :
    PE X (.Call (.Name "sorted" p1) [.Call (.Name "set" p2) [a] [] pos2] [] pos) (tE G C (.srs ea)) := by
  have hr := pe_callTy (T := "set") (pos := pos2) (p := p2) (cr_setL hc) glR hmR (by decide +kernel) (sim_cons ha sim_nil hs) (by decide) (by decide) hs rfl
  refine impE (pe_callB (id := "sorted") (cr_sortedSet hc) glL hmL (by decide +kernel) (pa_cons hr pa_nil rfl) (by decide) (by decide) rfl rfl) fun σ H Q ⟨env, S, ρ, B, B0, d, S', s, er, ev, q⟩ => ?_
  rw [evE] at ev
  obtain ⟨⟨d1, S1⟩, e1, e2⟩ := Option.bind_eq_some_iff.mp ev
  split at e2
  · rename_i xs ex
    have ex : d1 = .lst xs := ex
    subst ex
    obtain ⟨ns, e3, e4⟩ := Option.bind_eq_some_iff.mp e2
    split at e4
    · rename_i hz
      cases e4
      refine ⟨env, S, ρ, B, B0, [.lst xs], S1, s, er, by rw [evEs, e1]; rfl, fun vs H1 ρ1 x1 s1 r1 => ?_⟩
      cases r1 with
      | cons ra rb =>
        cases rb
        cases ra with
        | @lst a0 _ vs fz rv =>
          rw [rv.ints e3] at fz
          refine ⟨a0, ns, rfl, SqL.of fz.1, hz, fun p c hp hcn => ⟨p, _, c, rfl, upd_same, by omega, fun ns' p' h1 h2 h3 hp' => ?_⟩⟩
          have en : ns' = srtI ns := lt_uniq h1 srtI_lt fun k => by rw [h2 k, srtI_mem]; simp
          rw [en]
          exact new_lst (s1.laid hp) VRs.ofInts hp' fun v H' x' s' r' => q _ _ _ ((x1.trans (Ext.laid hp)).trans x') s' r'
    · cases e4
  · cases e2
end
end Wf
set_option Elab.async false
set_option linter.all false
namespace Wf
open PySem L2
theorem invE_k {T N sc fb d X0} (h : chkE T N sc fb (.k d) X0 = true) : (∃ i j p, d = .int i ∧ X0 = .Constant (.int i) j p) ∨ (∃ i j p, d = .bl i ∧ X0 = .Constant (.bool i) j p) ∨ (∃ i j p, d = .str i ∧ X0 = .Constant (.str i) j p) ∨ (∃ j p, d = .non ∧ X0 = .Constant .none j p) := by
  unfold chkE at h; split at h
  all_goals first | (cases h; done) | skip
  all_goals rename_i h1
  all_goals first | (cases h1; done) | skip
  all_goals cases h1
  · cases beq_iff_eq.mp h; exact .inl ⟨_, _, _, rfl, rfl⟩
  · cases beq_iff_eq.mp h; exact .inr (.inl ⟨_, _, _, rfl, rfl⟩)
  · cases of_decide_eq_true h; exact .inr (.inr (.inl ⟨_, _, _, rfl, rfl⟩))
  · exact .inr (.inr (.inr ⟨_, _, rfl, rfl⟩))
theorem invE_and {T N sc fb a b X0} (h : chkE T N sc fb (.and_ a b) X0 = true) : ∃ e1 e2 rest p, X0 = .BoolOp .And (e1 :: e2 :: rest) p ∧ chkE T N sc fb a e1 = true ∧ (rest = [] ∧ chkE T N sc fb b e2 = true ∨ ∃ e3 es, rest = e3 :: es ∧ chkE T N sc fb b (.BoolOp .And (e2 :: e3 :: es) p) = true) := by
  unfold chkE at h; split at h
  all_goals first | (cases h; done) | skip
  all_goals rename_i h1
  all_goals first | (cases h1; done) | skip
  all_goals cases h1
  all_goals rw [Bool.and_eq_true] at h
  · exact ⟨_, _, _, _, rfl, h.1, .inl ⟨rfl, h.2⟩⟩
  · exact ⟨_, _, _, _, rfl, h.1, .inr ⟨_, _, rfl, h.2⟩⟩
theorem invE_or {T N sc fb a b X0} (h : chkE T N sc fb (.or_ a b) X0 = true) : ∃ e1 e2 rest p, X0 = .BoolOp .Or (e1 :: e2 :: rest) p ∧ chkE T N sc fb a e1 = true ∧ (rest = [] ∧ chkE T N sc fb b e2 = true ∨ ∃ e3 es, rest = e3 :: es ∧ chkE T N sc fb b (.BoolOp .Or (e2 :: e3 :: es) p) = true) := by
  unfold chkE at h; split at h
  all_goals first | (cases h; done) | skip
  all_goals rename_i h1
  all_goals first | (cases h1; done) | skip
  all_goals cases h1
  all_goals rw [Bool.and_eq_true] at h
  · exact ⟨_, _, _, _, rfl, h.1, .inl ⟨rfl, h.2⟩⟩
  · exact ⟨_, _, _, _, rfl, h.1, .inr ⟨_, _, rfl, h.2⟩⟩
theorem invE_box {T N sc fb a X0} (h : chkE T N sc fb (.box a) X0 = true) : (isFr a && chkE T N sc fb a X0) = true := by
  unfold chkE at h
  exact h
theorem invP_e {T N sc fb a X0} (h : chkP T N sc fb (.e a) X0 = true) : chkE T N sc fb a X0 = true := by
  unfold chkP at h
  exact h
theorem invI_seq {T N sc fb a X0} (h : chkI T N sc fb (.seq a) X0 = true) : chkE T N sc fb a X0 = true := by
  unfold chkI at h
  exact h
def isTst : E → Bool
  | .nt _ => true | .and_ _ _ => true | .or_ _ _ => true | .cmp _ _ _ => true | .chn _ _ _ _ _ => true | .ch3 _ _ _ _ _ _ _ => true | .bad => true | _ => false
theorem tst_plain {ex : E} {e : Expr} (h : isTst ex = false) : tstOk ex e = plainT e := by
  unfold tstOk
  split <;> first | rfl | (cases h; done)
theorem plain_isTrue {e : Expr} (h : plainT e = true) (env : PySem.Env) (whole : Sem Value) : isTrue e env whole = (do let v ← whole; standAt e.pos; holding [v] (truthy v)) := by
  cases e <;> first | rfl | (cases h; done) | skip
  rename_i op x p
  cases op <;> first | rfl | (cases h; done)
def isBO : Expr → Bool
  | .BoolOp _ _ _ => true | _ => false
/-- what the look gives of one tree -/
structure Snd (G : Cr) (C : Orc) (X : Cx) (ex : E) (e : Expr) : Prop where
  pe : PE X e (tE G C ex)
  pf : isFr ex = true → PE X e (tF G C ex)
  pt : tstOk ex e = true → PT X e (tT G C ex)
  pw : tstOk ex e = true → isBO e = true → PW X e (tT G C ex)
section
variable {G : Cr} {C : Orc} {tb : Tb} {n : Nat} {X : Cx} {ex : E} {e : Expr}
theorem Snd.val (hi : isTst ex = false) (hf : isFr ex = false) (h : PE X e (tE G C ex)) : Snd G C X ex e :=
  ⟨h, fun z => absurd z (by rw [hf]; decide), fun z => tT.val h (plain_isTrue (by rw [← tst_plain hi]; exact z) X.env), fun z b => by
    rw [tst_plain hi] at z
    cases e <;> first | (cases b; done) | (cases z; done)⟩
theorem Snd.fr (hi : isTst ex = false) (h : PE X e (tF G C ex)) : Snd G C X ex e :=
  ⟨tE.f h, fun _ => h, fun z => tT.val (tE.f h) (plain_isTrue (by rw [← tst_plain hi]; exact z) X.env), fun z b => by
    rw [tst_plain hi] at z
    cases e <;> first | (cases b; done) | (cases z; done)⟩
theorem Snd.tst (hf : isFr ex = false) (hb : isBO e = false) (h : PE X e (tE G C ex)) (h2 : tstOk ex e = true → PT X e (tT G C ex)) : Snd G C X ex e :=
  ⟨h, fun z => absurd z (by rw [hf]; decide), h2, fun _ z => absurd z (by rw [hb]; decide)⟩
theorem Snd.bo (hf : isFr ex = false) (h : PE X e (tE G C ex)) (h2 : tstOk ex e = true → PW X e (tT G C ex)) : Snd G C X ex e :=
  ⟨h, fun z => absurd z (by rw [hf]; decide), fun z => (h2 z).pt, fun z _ => h2 z⟩
theorem plain_ix {b : Expr} (h : noSlice b = true) : PlainIx b := by
  cases b <;> first | (cases h; done) | exact fun _ _ => rfl
theorem notSet_fold {iter : Expr} (h : notSet iter = true) (env : PySem.Env) (x : Value) : foldedSetIterable iter env x = pure x := by
  cases iter <;> first | (cases h; done) | rfl
theorem chkQs_star {N sc fb} : ∀ {qs : Qs} {es : List Expr}, chkQs tb N sc fb qs es = true → es.all notStar = true
  | .nil, es, h0 => by obtain ⟨rfl, -⟩ := invQ_nil h0; rfl
  | .cons p ps, es, h0 => by
    obtain ⟨e, es, rfl, h⟩ := invQ_cons h0
    simp only [Bool.and_eq_true] at h
    rw [List.all_cons, h.1.1, chkQs_star h.2]; rfl
theorem chkEs_star {N sc fb} : ∀ {qs : Es} {es : List Expr}, chkEs tb N sc fb qs es = true → es.all notStar = true ∧ es.length = qs.len
  | .nil, es, h0 => by obtain ⟨rfl, -⟩ := invEs_nil h0; exact ⟨rfl, rfl⟩
  | .cons p ps, es, h0 => by
    obtain ⟨e, es, rfl, h⟩ := invEs_cons h0
    simp only [Bool.and_eq_true] at h
    have i := chkEs_star h.2
    exact ⟨by rw [List.all_cons, h.1.1, i.1]; rfl, congrArg Nat.succ i.2⟩
theorem chkKs_len {N sc fb} : ∀ {qs : Es} {es : List Keyword}, chkKs tb N sc fb qs es = true → es.length = qs.len
  | .nil, es, h0 => by obtain ⟨rfl, -⟩ := invKs_nil h0; rfl
  | .cons p ps, es, h0 => by
    obtain ⟨_, e, _, es, rfl, h⟩ := invKs_cons h0
    rw [Bool.and_eq_true] at h
    exact congrArg Nat.succ (chkKs_len h.2)
theorem chkPs_len {N sc fb} : ∀ {qs : Ps} {ks : List (Option Expr)} {vs : List Expr}, chkPs tb N sc fb qs ks vs = true → ks.all (·.isSome) = true ∧ ks.length = vs.length
  | .nil, _, _, h0 => by obtain ⟨rfl, rfl, -⟩ := invPs_nil h0; exact ⟨rfl, rfl⟩
  | .cons _ _ ps, _, _, h0 => by
    obtain ⟨a, ks, b, vs, rfl, rfl, h⟩ := invPs_cons h0
    rw [Bool.and_eq_true] at h
    have i := chkPs_len h.2
    exact ⟨i.1, congrArg Nat.succ i.2⟩
theorem ownP_map {N : List Str} {own : List Nat} : (ownP N own).map (·.2) = own := by
  unfold ownP
  rw [List.map_map]
  exact List.map_id _
mutual
theorem sndE (ex : E) (X : Cx) (g : Gd G C tb n X) (e : Expr) (h0 : chkE tb X.N X.env.scope X.fn ex e = true) : Snd G C X ex e := by
  match ex with
  | .k d =>
    rcases invE_k h0 with ⟨i, j, p, rfl, rfl⟩ | ⟨i, j, p, rfl, rfl⟩ | ⟨i, j, p, rfl, rfl⟩ | ⟨j, p, rfl, rfl⟩
    · exact .val rfl rfl sim_k_int
    · exact .val rfl rfl sim_k_bl
    · exact .val rfl rfl sim_k_str
    · exact .val rfl rfl sim_k_non
  | .v i =>
    obtain ⟨x, p, rfl, h⟩ := invE_v h0
    simp only [Bool.and_eq_true, decide_eq_true_eq] at h
    exact .val rfl rfl (sim_v h.1.1 (vis_of h.1.2) (okN_of h.2).1 (okN_of h.2).2)
  | .gl d =>
    obtain ⟨x, p, rfl, h⟩ := invE_gl h0
    simp only [Bool.and_eq_true, decide_eq_true_eq] at h
    obtain ⟨u, v, hm, hr, hv⟩ := g.gl _ (gnB_mem h.1.1)
    exact .val rfl rfl (sim_gl (glb_of h.1.2) hm hr hv (okN_of h.2).1)
  | .bin op a b =>
    obtain ⟨x, o, y, p, rfl, h⟩ := invE_bin h0
    simp only [Bool.and_eq_true, opEq, decide_eq_true_eq] at h
    obtain ⟨⟨rfl, h1⟩, h2⟩ := h
    exact .val rfl rfl (sim_bin g.K (sndE a X g x h1).pe (sndE b X g y h2).pe)
  | .cmp op a b =>
    obtain ⟨x, o, y, p, rfl, h⟩ := invE_cmp h0
    simp only [Bool.and_eq_true, decide_eq_true_eq, Bool.not_eq_true'] at h
    obtain ⟨⟨⟨rfl, h1⟩, h2⟩, h3⟩ := h
    have ia := sndP a X g x h1
    have ib := sndP b X g y h2
    exact .tst rfl rfl (sim_cmp g.K g.u66 ia ib h3) fun _ => test_cmp g.K g.u66 ia ib h3
  | .chn o1 o2 a b c =>
    obtain ⟨x, p1, p2, y, z, p, rfl, h⟩ := invE_chn h0
    simp only [Bool.and_eq_true, decide_eq_true_eq, Bool.not_eq_true'] at h
    obtain ⟨⟨⟨⟨⟨rfl, rfl⟩, h1⟩, h2⟩, h3⟩, h4⟩ := h
    have ia := (sndE a X g x h1).pe
    have ib := (sndE b X g y h2).pe
    have ic := (sndE c X g z h3).pe
    exact .tst rfl rfl (sim_chn g.K g.u66 ia ib ic h4) fun _ => test_chn g.K g.u66 ia ib ic h4
  | .neg a =>
    obtain ⟨x, p, rfl, h⟩ := invE_neg h0
    exact .val rfl rfl (sim_neg (sndE a X g x h).pe)
  | .nt a =>
    obtain ⟨x, p, rfl, h⟩ := invE_nt h0
    have i := sndE a X g x h
    exact .tst rfl rfl (sim_nt i.pe) fun z => test_nt (i.pt (by rw [tstOk] at z; exact z))
  | .and_ a b =>
    obtain ⟨e1, e2, rest, p, rfl, h1, h2⟩ := invE_and h0
    have i := sndE a X g e1 h1
    rcases h2 with ⟨rfl, h2⟩ | ⟨e3, es, rfl, h2⟩
    · have j := sndE b X g e2 h2
      refine .bo rfl (sim_and i.pe (pe_one j.pe)) fun z => ?_
      rw [tstOk, Bool.and_eq_true] at z
      exact test_and (i.pt z.1) (pw_and1 (j.pt z.2))
    · have j := sndE b X g _ h2
      refine .bo rfl (sim_and i.pe j.pe) fun z => ?_
      rw [tstOk, Bool.and_eq_true] at z
      exact test_and (i.pt z.1) (j.pw z.2 rfl)
  | .or_ a b =>
    obtain ⟨e1, e2, rest, p, rfl, h1, h2⟩ := invE_or h0
    have i := sndE a X g e1 h1
    rcases h2 with ⟨rfl, h2⟩ | ⟨e3, es, rfl, h2⟩
    · have j := sndE b X g e2 h2
      refine .bo rfl (sim_or i.pe (pe_one j.pe)) fun z => ?_
      rw [tstOk, Bool.and_eq_true] at z
      exact test_or (i.pt z.1) (pw_or1 (j.pt z.2))
    · have j := sndE b X g _ h2
      refine .bo rfl (sim_or i.pe j.pe) fun z => ?_
      rw [tstOk, Bool.and_eq_true] at z
      exact test_or (i.pt z.1) (j.pw z.2 rfl)
  | .ite c a b =>
    obtain ⟨t, x, y, p, rfl, h⟩ := invE_ite h0
    simp only [Bool.and_eq_true] at h
    exact .val rfl rfl (sim_ite ((sndE c X g t h.1.1.1).pt h.1.1.2) (sndE a X g x h.1.2).pe (sndE b X g y h.2).pe)
  | .sub a i =>
    obtain ⟨x, y, p, rfl, h⟩ := invE_sub h0
    simp only [Bool.and_eq_true] at h
    exact .val rfl rfl (sim_sub g.K g.w g.u1 (sndP a X g x h.1.1) (sndE i X g y h.2).pe (plain_ix h.1.2))
  | .cut a lo hi =>
    obtain ⟨x, l, hh, p1, p2, rfl, h⟩ := invE_cut h0
    simp only [Bool.and_eq_true] at h
    exact .fr rfl (sim_cut g.K (sndP a X g x h.1.1) (sndO lo X g l h.1.2) (sndO hi X g hh h.2))
  | .rev a =>
    obtain ⟨x, k, p1, p2, p3, p4, rfl, h⟩ := invE_rev h0
    exact .fr rfl (sim_rev g.K (sndP a X g x h))
  | .tup es =>
    obtain ⟨xs, k, p, rfl, h⟩ := invE_tup h0
    exact .val rfl rfl (sim_tup (sndEs es X g xs h))
  | .lst es =>
    obtain ⟨xs, p, rfl, h⟩ := invE_lst h0
    exact .fr rfl (sim_lst (sndEs es X g xs h))
  | .dsp ps =>
    obtain ⟨ks, vs, p, rfl, h⟩ := invE_dsp h0
    simp only [Bool.and_eq_true, Bool.or_eq_true, Bool.not_eq_true', decide_eq_true_eq] at h
    have l := chkPs_len h.1.1
    cases ks with
    | cons k0 kr => exact .fr rfl (sim_dsp (sndPs ps X g (k0 :: kr) vs h.1.1) l.1 l.2 (fun z => by cases z) h.2)
    | nil =>
      rcases h.1.2 with z | ⟨z1, z2⟩
      · cases z
      · cases ps <;> first | (cases z1; done) | skip
        cases vs <;> first | (cases z2; done) | skip
        exact .fr rfl sim_dsp0
  | .lrg a b =>
    obtain ⟨x, p1, y, p2, u, v, p3, p, rfl, h⟩ := invE_lrg h0
    simp only [Bool.and_eq_true, decide_eq_true_eq] at h
    obtain ⟨⟨⟨⟨⟨⟨⟨rfl, h1⟩, rfl⟩, h2⟩, h3⟩, h4⟩, h5⟩, h6⟩ := h
    exact .val rfl rfl (sim_lrg g.calm (glb_of h1) (g.bi .list) (glb_of h2) g.rng (sndE a X g u h3).pe (sndE b X g v h4).pe ((star_cons h5).trans (congrArg _ (star_cons h6))) (star_cons h6))
  | .srs a =>
    obtain ⟨x, p1, y, p2, u, p3, p, rfl, h⟩ := invE_srs h0
    simp only [Bool.and_eq_true, decide_eq_true_eq] at h
    obtain ⟨⟨⟨⟨⟨rfl, h1⟩, rfl⟩, h2⟩, h3⟩, h4⟩ := h
    exact .val rfl rfl (sim_srs g.calm g.w (glb_of h1) (g.bt _ (by decide)) (glb_of h2) (g.bt _ (by decide)) (sndE a X g u h3).pe (star_cons h4))
  | .bi f qs =>
    obtain ⟨x, p1, e, es, p, rfl, h⟩ := invE_bi h0
    simp only [Bool.and_eq_true, decide_eq_true_eq] at h
    obtain ⟨⟨rfl, h1⟩, h2⟩ := h
    have hs := chkQs_star h2
    rw [List.all_cons, Bool.and_eq_true] at hs
    exact .val rfl rfl (sim_bi g.K g.calm g.gds g.u66 (glb_of h1) (g.bi f) (sndQs qs X g _ h2) (star_cons hs.1) (star_any hs.2))
  | .call f es ks perm =>
    obtain ⟨x, p1, args, kws, p, rfl, h⟩ := invE_call h0
    simp only [Bool.and_eq_true, decide_eq_true_eq] at h
    obtain ⟨⟨⟨⟨⟨h1, h2⟩, h3⟩, h4⟩, h5⟩, h6⟩ := h
    split at h6
    · rename_i kn hkn
      obtain ⟨x', fa, fd, ps, e1, hm, hk, hb, F⟩ := g.cs _ (csB_mem h6)
      have e2 := e1.symm.trans h1
      cases e2
      have hst := chkEs_star h4
      have lk : kn.length = ks.len := by
        have := congrArg List.length (knOf_map hkn)
        rw [List.length_map, List.length_map] at this
        rw [← this, chkKs_len h5]
      exact .val rfl rfl (sim_call g.K F g.rm g.gds hb (glb_of h2) hm hk (sndEs es X g args h4) (sndKs ks X g kws h5) hst.1 (knOf_map hkn) (okN_of h3).1 hst.2 lk)
    · cases h6
  | .lc own t it c elt =>
    obtain ⟨x, tg, iter, ifs, scope, p, rfl, h⟩ := invE_lc h0
    simp only [Bool.and_eq_true, List.all_eq_true] at h
    obtain ⟨⟨⟨⟨⟨⟨⟨h1, h1b⟩, h2⟩, h3⟩, h4⟩, h5⟩, h6⟩, h7⟩ := h
    refine .fr rfl ?_
    have q := pe_lc (pos := p) g.calm g.nd (sndI it X g tg iter h1 h1b) (blkOk_by h3) (fun s H Cc cl fp => sndT (X := X.blk s H scope (compEnvC scope cl Cc X.env) fp) g.calm g.K g.nd t tg h4)
      (fun s H Cc cl fp => sndC c (X.blk s H scope (compEnvC scope cl Cc X.env) fp) (g.blk _ _ _ _ _) ifs h6) (fun s H Cc cl fp => (sndE elt (X.blk s H scope (compEnvC scope cl Cc X.env) fp) (g.blk _ _ _ _ _) x h7).pe) (notSet_fold h2 X.env)
    have om := ownP_map (N := X.N) (own := own)
    refine impE q fun σ H Q w => lc_reads (fun i hi => ?_) ?_
    · rw [om]
      exact List.contains_iff_mem.mp (h5 i hi)
    · rw [om]; exact w
  | .lcp own t i c elt =>
    obtain ⟨x, tg, y, pn, ifs, scope, p, rfl, h⟩ := invE_lcp h0
    simp only [Bool.and_eq_true, List.all_eq_true, decide_eq_true_eq] at h
    obtain ⟨⟨⟨⟨⟨⟨⟨h1, h1b⟩, h2⟩, h3⟩, h4⟩, h5⟩, h6⟩, h7⟩ := h
    refine .fr rfl ?_
    have q := pe_lc (pos := p) g.calm g.nd (pi_own (G := G) (tg := tg) (pn := pn) h1 (vis_of h1b) (okN_of h2).1 (okN_of h2).2) (blkOk_by h3) (fun s H Cc cl fp => sndT (X := X.blk s H scope (compEnvC scope cl Cc X.env) fp) g.calm g.K g.nd t tg h4)
      (fun s H Cc cl fp => sndC c (X.blk s H scope (compEnvC scope cl Cc X.env) fp) (g.blk _ _ _ _ _) ifs h6) (fun s H Cc cl fp => (sndE elt (X.blk s H scope (compEnvC scope cl Cc X.env) fp) (g.blk _ _ _ _ _) x h7).pe) (fun _ => rfl)
    have om := ownP_map (N := X.N) (own := own)
    refine impE q fun σ H Q w => lcp_reads (fun i hi => ?_) ?_
    · rw [om]
      exact List.contains_iff_mem.mp (h5 i hi)
    · rw [om]; exact w
  | .att c a f =>
    obtain ⟨x, f', p, rfl, h⟩ := invE_att h0
    simp only [Bool.and_eq_true, decide_eq_true_eq] at h
    obtain ⟨⟨⟨rfl, h1⟩, h2⟩, h3⟩ := h
    exact .val rfl rfl (sim_att (fun Cc hc => ⟨g.cls c Cc hc, g.na c f (naB_mem h1) Cc hc⟩) (sndE a X g x h2).pe h3)
  | .mk c f es ks perm =>
    obtain ⟨x, p1, args, kws, p, rfl, h⟩ := invE_mk h0
    simp only [Bool.and_eq_true, decide_eq_true_eq] at h
    obtain ⟨⟨⟨⟨h2, h3⟩, h4⟩, h5⟩, h6⟩ := h
    split at h6
    · rename_i kn hkn
      obtain ⟨Cc, fa, fd, ps, hm, hcl, M, hb, F⟩ := g.mks _ (mkB_mem h6)
      have hst := chkEs_star h4
      have lk : kn.length = ks.len := by
        have := congrArg List.length (knOf_map hkn)
        rw [List.length_map, List.length_map] at this
        rw [← this, chkKs_len h5]
      exact .val rfl rfl (sim_mk g.K hcl M F g.room g.gds hb (glb_of h2) hm (sndEs es X g args h4) (sndKs ks X g kws h5) hst.1 (knOf_map hkn) (okN_of h3).1 hst.2 lk)
    · cases h6
  | .meth c f m a es ks perm =>
    obtain ⟨x, m', ap, args, kws, p, rfl, h⟩ := invE_meth h0
    simp only [Bool.and_eq_true, decide_eq_true_eq] at h
    obtain ⟨⟨⟨⟨⟨⟨⟨rfl, h1⟩, h2⟩, h3⟩, h3b⟩, h4⟩, h5⟩, h6⟩ := h
    split at h6
    · rename_i kn hkn
      obtain ⟨fa, fd, ps, mt, hb, F⟩ := g.mts _ (mtB_mem h6)
      have hst := chkEs_star h4
      have lk : kn.length = ks.len := by
        have := congrArg List.length (knOf_map hkn)
        rw [List.length_map, List.length_map] at this
        rw [← this, chkKs_len h5]
      exact .val rfl rfl (sim_meth g.K (fun Cc hc => ⟨g.cls c Cc hc, mt Cc hc⟩) F g.rm g.gds hb (sndE a X g x h1).pe (sndEs es X g args h4) (sndKs ks X g kws h5) h2 h3 hst.1 (knOf_map hkn) h3b hst.2 lk)
    · cases h6
  | .isi a t =>
    obtain ⟨x, p1, y, z, p2, p, rfl, h⟩ := invE_isi h0
    simp only [Bool.and_eq_true, decide_eq_true_eq] at h
    obtain ⟨⟨⟨⟨⟨rfl, rfl⟩, h1⟩, h2⟩, h3⟩, h4⟩ := h
    exact .val rfl rfl (sim_isi g.K (glb_of h1) g.isi (glb_of h2) (g.ty t) (sndP a X g y h3) h4)
  | .ch3 o1 o2 o3 a b c d =>
    obtain ⟨x, p1, p2, p3, y, z, u, p, rfl, h⟩ := invE_ch3 h0
    simp only [Bool.and_eq_true, decide_eq_true_eq, Bool.not_eq_true'] at h
    obtain ⟨⟨⟨⟨⟨⟨⟨rfl, rfl⟩, rfl⟩, h1⟩, h2⟩, h3⟩, h4⟩, h5⟩ := h
    have ia := (sndE a X g x h1).pe
    have ib := (sndE b X g y h2).pe
    have ic := (sndE c X g z h3).pe
    have id := (sndE d X g u h4).pe
    exact .tst rfl rfl (sim_ch3 g.K g.u66 ia ib ic id h5) fun _ => test_ch3 g.K g.u66 ia ib ic id h5
  | .lc2 own own1 t it c t1 it1 c1 elt =>
    obtain ⟨x, tg, iter, ifs, tg1, iter1, ifs1, scope, p, rfl, h⟩ := invE_lc2 h0
    simp only [Bool.and_eq_true, List.all_eq_true] at h
    obtain ⟨⟨⟨⟨⟨⟨⟨⟨⟨⟨⟨⟨⟨⟨h1, h1b⟩, h2⟩, h2b⟩, h3⟩, h3b⟩, h4⟩, h5⟩, h6⟩, k1⟩, k1b⟩, k4⟩, k5⟩, k6⟩, h7⟩ := h
    refine .fr rfl ?_
    have om := ownP_map (N := X.N) (own := own)
    have q := pe_lc2 (pos := p) (vs1 := own1) g.calm g.nd (sndI it X g tg iter h1 h1b) (blkOk_by h3) (fun i hi => by rw [om]; exact List.contains_iff_mem.mp (h3b i hi)) (fun s H Cc cl fp => sndT (X := X.blk s H scope (compEnvC scope cl Cc X.env) fp) g.calm g.K g.nd t tg h4)
      (fun s H Cc cl fp => sndC c (X.blk s H scope (compEnvC scope cl Cc X.env) fp) (g.blk _ _ _ _ _) ifs h6) (fun s H Cc cl fp => sndI it1 (X.blk s H scope (compEnvC scope cl Cc X.env) fp) (g.blk _ _ _ _ _) tg1 iter1 k1 k1b) (fun s H Cc cl fp => sndT (X := X.blk s H scope (compEnvC scope cl Cc X.env) fp) g.calm g.K g.nd t1 tg1 k4)
      (fun s H Cc cl fp => sndC c1 (X.blk s H scope (compEnvC scope cl Cc X.env) fp) (g.blk _ _ _ _ _) ifs1 k6) (fun s H Cc cl fp => (sndE elt (X.blk s H scope (compEnvC scope cl Cc X.env) fp) (g.blk _ _ _ _ _) x h7).pe) (notSet_fold h2 X.env) (fun env => notSet_fold h2b env)
    refine impE q fun σ H Q w => ?_
    rw [om]
    exact lc2_reads (fun i hi => List.contains_iff_mem.mp (h5 i hi)) (fun i hi => List.contains_iff_mem.mp (k5 i hi)) w
  | .bad => exact ⟨tE.f sim_bad, fun _ => sim_bad, fun _ => test_bad, fun _ _ => testW_bad⟩
  | .box a =>
    have h := invE_box h0
    rw [Bool.and_eq_true] at h
    exact .val rfl rfl (sim_box ((sndE a X g e h.2).pf h.1))
  | .pop a =>
    obtain ⟨x, m, ap, p, rfl, h⟩ := invE_pop h0
    simp only [Bool.and_eq_true, decide_eq_true_eq] at h
    obtain ⟨⟨⟨rfl, h1⟩, h2⟩, h3⟩ := h
    exact .val rfl rfl (sim_pop (sndE a X g x h1).pe h2 h3)
  | .app a b =>
    obtain ⟨x, m, ap, y, p, rfl, h⟩ := invE_app h0
    simp only [Bool.and_eq_true, decide_eq_true_eq] at h
    obtain ⟨⟨⟨⟨⟨rfl, h1⟩, h2⟩, h3⟩, h4⟩, h5⟩ := h
    exact .val rfl rfl (sim_app (sndE a X g x h1).pe (sndE b X g y h2).pe h3 h4 (star_cons h5))
theorem sndP (p : P) (X : Cx) (g : Gd G C tb n X) (e : Expr) (h0 : chkP tb X.N X.env.scope X.fn p e = true) : PE X e (tP G C p) := by
  match p with
  | .e ex => exact tP.of (sndE ex X g e (invP_e h0)).pe
  | .pk i =>
    obtain ⟨x, p, rfl, h⟩ := invP_pk h0
    simp only [Bool.and_eq_true, decide_eq_true_eq] at h
    exact sim_pk h.1.1 (vis_of h.1.2) (okN_of h.2).1 (okN_of h.2).2
theorem sndQs (qs : Qs) (X : Cx) (g : Gd G C tb n X) (es : List Expr) (h0 : chkQs tb X.N X.env.scope X.fn qs es = true) : PA X es (tQs G C qs) := by
  match qs with
  | .nil => obtain ⟨rfl, -⟩ := invQ_nil h0; exact simQ_nil
  | .cons p ps =>
    obtain ⟨e, es, rfl, h⟩ := invQ_cons h0
    simp only [Bool.and_eq_true] at h
    exact simQ_cons (sndP p X g e h.1.2) (sndQs ps X g es h.2) (star_cons h.1.1)
theorem sndO (o : Oe) (X : Cx) (g : Gd G C tb n X) (e : Option Expr) (h0 : chkO tb X.N X.env.scope X.fn o e = true) : PO X e (tO G C o) := by
  match o with
  | .none => obtain ⟨rfl, -⟩ := invO_none h0; exact sim_o_none
  | .some ex => obtain ⟨e, rfl, h⟩ := invO_some h0; exact sim_o_some (sndE ex X g e h).pe
theorem sndC (o : Oe) (X : Cx) (g : Gd G C tb n X) (es : List Expr) (h0 : chkC tb X.N X.env.scope X.fn o es = true) : PTs X es (tC G C o) := by
  match o with
  | .none => obtain ⟨rfl, -⟩ := invC_none h0; exact simC_none
  | .some ex =>
    obtain ⟨e, rfl, h⟩ := invC_some h0
    rw [Bool.and_eq_true] at h
    exact simC_some ((sndE ex X g e h.1).pt h.2)
theorem sndEs (qs : Es) (X : Cx) (g : Gd G C tb n X) (es : List Expr) (h0 : chkEs tb X.N X.env.scope X.fn qs es = true) : PA X es (tEs G C qs) := by
  match qs with
  | .nil => obtain ⟨rfl, -⟩ := invEs_nil h0; exact sim_nil
  | .cons p ps =>
    obtain ⟨e, es, rfl, h⟩ := invEs_cons h0
    simp only [Bool.and_eq_true] at h
    exact sim_cons (sndE p X g e h.1.2).pe (sndEs ps X g es h.2) (star_cons h.1.1)
theorem sndKs (qs : Es) (X : Cx) (g : Gd G C tb n X) (es : List Keyword) (h0 : chkKs tb X.N X.env.scope X.fn qs es = true) : PK X es (tEs G C qs) := by
  match qs with
  | .nil => obtain ⟨rfl, -⟩ := invKs_nil h0; exact simK_nil
  | .cons p ps =>
    obtain ⟨_, e, _, es, rfl, h⟩ := invKs_cons h0
    rw [Bool.and_eq_true] at h
    exact simK_cons (sndE p X g e h.1).pe (sndKs ps X g es h.2)
theorem sndPs (qs : Ps) (X : Cx) (g : Gd G C tb n X) {pos : Pos} (ks : List (Option Expr)) (vs : List Expr) (h0 : chkPs tb X.N X.env.scope X.fn qs ks vs = true) : PPs X pos ks vs (psTrs G C qs) := by
  match qs with
  | .nil => obtain ⟨rfl, rfl, -⟩ := invPs_nil h0; exact pps_nil
  | .cons k v ps =>
    obtain ⟨a, ks, b, vs, rfl, rfl, h⟩ := invPs_cons h0
    simp only [Bool.and_eq_true] at h
    exact pps_cons (sndE k X g a h.1.1).pe (sndE v X g b h.1.2).pe (sndPs ps X g ks vs h.2)
theorem sndI (it : It) (X : Cx) (g : Gd G C tb n X) (tg e : Expr) (h0 : chkI tb X.N X.env.scope X.fn it e = true) (hk : okIt it tg = true) : PI X tg e (tI G C it) := by
  match it with
  | .seq ex => exact pi_seq (sndE ex X g e (invI_seq h0)).pe g.K
  | .enm a =>
    obtain ⟨x, p1, y, p, rfl, h⟩ := invI_enm h0
    simp only [Bool.and_eq_true, decide_eq_true_eq] at h
    obtain ⟨⟨⟨rfl, h1⟩, h2⟩, h3⟩ := h
    cases tg <;> first | (cases hk; done) | skip
    exact sim_enm g.K (glb_of h1) g.enm (sndE a X g y h2).pe h3
  | .zps a b =>
    obtain ⟨x, p1, y, z, kw, cn, cp, kp, p, rfl, h⟩ := invI_zps h0
    simp only [Bool.and_eq_true, decide_eq_true_eq] at h
    obtain ⟨⟨⟨⟨⟨⟨rfl, rfl⟩, h1⟩, h2⟩, h3⟩, h4⟩, h5⟩ := h
    cases tg <;> first | (cases hk; done) | skip
    exact sim_zps g.K (glb_of h1) g.zip (sndE a X g y h2).pe (sndE b X g z h3).pe h4 h5
  | .rng1 a =>
    obtain ⟨x, p1, y, p, rfl, h⟩ := invI_rng1 h0
    simp only [Bool.and_eq_true, decide_eq_true_eq] at h
    obtain ⟨⟨⟨rfl, h1⟩, h2⟩, h3⟩ := h
    exact sim_rng1 (glb_of h1) g.rng (sndE a X g y h2).pe (star_cons h3)
  | .rng2 a b =>
    obtain ⟨x, p1, y, z, p, rfl, h⟩ := invI_rng2 h0
    simp only [Bool.and_eq_true, decide_eq_true_eq] at h
    obtain ⟨⟨⟨⟨⟨rfl, h1⟩, h2⟩, h3⟩, h4⟩, h5⟩ := h
    exact sim_rng2 (glb_of h1) g.rng (sndE a X g y h2).pe (sndE b X g z h3).pe ((star_cons h4).trans (congrArg _ (star_cons h5))) (star_cons h5)
end
end
end Wf
set_option Elab.async false
set_option linter.all false
namespace Wf
open PySem L2

/-! ### statements: the look -/
def noComp : Expr → Bool
  | .ListComp _ _ _ _ => false | .SetComp _ _ _ _ => false | .DictComp _ _ _ _ _ => false | _ => true
def notTup : Expr → Bool
  | .Tuple _ _ _ => false | _ => true
def isFun (sc : Scope) : Bool := match sc.kind with | .function => true | _ => false
/-- the comprehension is stored by the name itself -/
def swB (sc : Scope) (y : Str) (py : Pos) : Expr → Bool
  | .ListComp _ _ scope pos => isFun sc && lclB sc y && (py.line == pos.line) && !(scope.names.any fun (n, k) => n == y && (k == .local || k == .cell))
  | _ => false
def par2 (sc : Scope) (x y : Str) (px py : Pos) (a b : Expr) : Bool :=
  isFun sc && lclB sc x && lclB sc y && (py.line == px.line) && !(x == y) && notStar a && notStar b && !(foldedForSure 8 a && foldedForSure 8 b) && !(constantsAlone 8 a && constantsAlone 8 b)
def par3 (sc : Scope) (x y z : Str) (px py pz : Pos) (a b c : Expr) : Bool :=
  isFun sc && lclB sc x && lclB sc y && lclB sc z && (py.line == px.line) && (pz.line == px.line) && !(x == y) && !(x == z) && !(y == z) && notStar a && notStar b && notStar c && !(foldedForSure 8 a && foldedForSure 8 b && foldedForSure 8 c) && !(constantsAlone 8 a && constantsAlone 8 b && constantsAlone 8 c)
theorem isFun_of {sc : Scope} (h : isFun sc = true) : sc.kind = .function := by
  unfold isFun at h
  split at h
  · assumption
  · cases h
theorem noComp_sw {e : Expr} (h : noComp e = true) (t : Option Expr) (l : Nat) (env : PySem.Env) : swapsWith e t l env = pure false := by
  cases e <;> first | rfl | (cases h; done)
theorem notTup_sw {e tg : Expr} (h : notTup e = true) (env : PySem.Env) : swappedStores [tg] e env = pure none := by
  unfold swappedStores
  split
  · rename_i h2
    split at h2 <;> first | (cases h; done) | (cases h2; done)
  · rfl
theorem beq_ff {x y : Str} (h : (x == y) = false) : (y == x) = false := by
  rw [beq_eq_false_iff_ne] at *
  exact fun z => h z.symm
theorem loc_loc : (some NameKind.local == some NameKind.local) = true := by decide
theorem fn_fn : (ScopeKind.function != ScopeKind.function) = false := by decide
theorem ln_ln (n : Nat) : (n == n) = true := beq_self_eq_true n
theorem par2_sw {env : PySem.Env} {x y : Str} {px py pt pt2 : Pos} {a b : Expr} {kt k2 : Nat} (h : par2 env.scope x y px py a b = true) : swappedStores [.Tuple [.Name x px, .Name y py] kt pt] (.Tuple [a, b] k2 pt2) env = pure (some [x, y]) := by
  unfold par2 at h
  simp only [Bool.and_eq_true, Bool.not_eq_true'] at h
  obtain ⟨⟨⟨⟨⟨⟨⟨⟨h1, h2⟩, h3⟩, h4⟩, h5⟩, h6⟩, h7⟩, h8⟩, h9⟩ := h
  have k1 : env.kindOf x = some .local := lcl_of h2
  have k2 : env.kindOf y = some .local := lcl_of h3
  have hb : env.blockKind = .function := by unfold Env.blockKind; rw [isFun_of h1]; rfl
  have h5' := beq_ff h5
  unfold swappedStores
  simp only [List.any_cons, List.any_nil, hb, List.length_cons, List.length_nil, List.filterMap_cons, List.filterMap_nil, k1, k2, List.head?_cons, Option.map_some, Option.getD_some, Expr.pos, h4, ln_ln, loc_loc, fn_fn, List.all_cons, List.all_nil, Bool.and_true, h8, h9, if_true, List.eraseDups_cons, List.filter_cons, h5', List.filter_nil, List.eraseDups_nil]
  simp [List.eraseDups_cons, List.filter_cons, h5']
  intro h
  rcases h with h | h
  · cases a <;> first | (cases h6; done) | (cases h; done)
  · cases b <;> first | (cases h7; done) | (cases h; done)
theorem par3_sw {env : PySem.Env} {x y z : Str} {px py pz pt pt2 : Pos} {a b c : Expr} {kt k2 : Nat} (h : par3 env.scope x y z px py pz a b c = true) : swappedStores [.Tuple [.Name x px, .Name y py, .Name z pz] kt pt] (.Tuple [a, b, c] k2 pt2) env = pure (some [x, y, z]) := by
  unfold par3 at h
  simp only [Bool.and_eq_true, Bool.not_eq_true'] at h
  obtain ⟨⟨⟨⟨⟨⟨⟨⟨⟨⟨⟨⟨⟨h1, h2⟩, h3⟩, g3⟩, h4⟩, g4⟩, h5⟩, g5⟩, f5⟩, h6⟩, h7⟩, g7⟩, h8⟩, h9⟩ := h
  have k1 : env.kindOf x = some .local := lcl_of h2
  have k2 : env.kindOf y = some .local := lcl_of h3
  have k3 : env.kindOf z = some .local := lcl_of g3
  have hb : env.blockKind = .function := by unfold Env.blockKind; rw [isFun_of h1]; rfl
  have h5' := beq_ff h5
  have g5' := beq_ff g5
  have f5' := beq_ff f5
  rw [Bool.and_assoc] at h8 h9
  unfold swappedStores
  simp only [List.any_cons, List.any_nil, hb, List.length_cons, List.length_nil, List.filterMap_cons, List.filterMap_nil, k1, k2, k3, List.head?_cons, Option.map_some, Option.getD_some, Expr.pos, h4, g4, ln_ln, loc_loc, fn_fn, List.all_cons, List.all_nil, Bool.and_true, h8, h9, if_true, List.eraseDups_cons, List.filter_cons, h5', g5', f5', List.filter_nil, List.eraseDups_nil]
  simp [List.eraseDups_cons, List.filter_cons, h5', g5', f5']
  intro h
  rcases h with h | h | h
  · cases a <;> first | (cases h6; done) | (cases h; done)
  · cases b <;> first | (cases h7; done) | (cases h; done)
  · cases c <;> first | (cases g7; done) | (cases h; done)

/-- no store by the comprehension itself -/
def nsw (sc : Scope) (tg e : Expr) : Bool := noComp e || (match tg with | .Name y _ => !(lclB sc y) | _ => true)
/-- a target that is no local name -/
def oddT (sc : Scope) : Expr → Bool
  | .Name y _ => !(lclB sc y)
  | _ => true
def nsp (sc : Scope) (tg e : Expr) : Bool := notTup e || (match tg with | .Tuple ts _ _ => !(ts.length == 2 || ts.length == 3) || ts.any (oddT sc) | .List ts _ => !(ts.length == 2 || ts.length == 3) | _ => true)
theorem nsw_sw {tg e : Expr} {env : PySem.Env} {l : Nat} (h : nsw env.scope tg e = true) : swapsWith e (some tg) l env = pure false := by
  unfold nsw at h
  rw [Bool.or_eq_true] at h
  rcases h with h | h
  · exact noComp_sw h _ _ _
  · split at h
    · rename_i y p
      have hk : (env.kindOf y == some .local) = false := by
        show (env.scope.names.lookup y == some .local) = false
        rw [Bool.not_eq_true'] at h
        unfold lclB at h
        split at h
        · cases h
        · rename_i hn
          exact beq_eq_false_iff_ne.mpr fun z => hn z
      cases e <;> first | rfl | (unfold swapsWith; simp only [hk, Bool.and_false, Bool.false_and])
    · rename_i hn
      cases e <;> first | rfl | (cases tg <;> first | rfl | exact absurd rfl (hn _ _))
theorem fm_le {α β : Type} (f : α → Option β) : ∀ l : List α, (l.filterMap f).length ≤ l.length
  | [] => Nat.le_refl _
  | a :: l => by
    have := fm_le f l
    rw [List.filterMap_cons]
    split
    · simp only [List.length_cons]; omega
    · simp only [List.length_cons]; omega
theorem fm_lt {α β : Type} (f : α → Option β) : ∀ l : List α, (∃ a ∈ l, f a = none) → (l.filterMap f).length < l.length
  | [], ⟨_, h, _⟩ => by cases h
  | a :: l, ⟨b, h, e⟩ => by
    rw [List.filterMap_cons]
    rcases List.mem_cons.mp h with rfl | h
    · rw [e]
      have := fm_le f l
      simp only [List.length_cons]; omega
    · have := fm_lt f l ⟨b, h, e⟩
      split
      · simp only [List.length_cons]; omega
      · simp only [List.length_cons]; omega
theorem odd_none (env : PySem.Env) (line : Nat) (t : Expr) : oddT env.scope t = true → (match t with | .Name id pos => if env.kindOf id == some .local && pos.line == line then some id else none | _ => none) = (none : Option Str) := by
  intro h
  cases t <;> first | rfl | skip
  rename_i y p
  have hk : (env.kindOf y == some .local) = false := by
    show (env.scope.names.lookup y == some .local) = false
    have h : (!(lclB env.scope y)) = true := h
    rw [Bool.not_eq_true'] at h
    unfold lclB at h
    split at h
    · cases h
    · rename_i hn
      exact beq_eq_false_iff_ne.mpr fun z => hn z
  simp only [hk, Bool.false_and, Bool.false_eq_true, if_false]
theorem nsp_sw {tg e : Expr} {env : PySem.Env} (h : nsp env.scope tg e = true) : swappedStores [tg] e env = pure none := by
  unfold nsp at h
  rw [Bool.or_eq_true] at h
  rcases h with h | h
  · exact notTup_sw h env
  · unfold swappedStores
    split
    · rename_i ts vs h2
      split at h2
      · rename_i h3 
        cases h2
        cases h3
        simp only [Bool.or_eq_true] at h
        rcases h with h | h
        · simp only [h, Bool.true_or, if_true]
        · obtain ⟨t, ht, ho⟩ := List.any_eq_true.mp h
          have lt := fm_lt (fun t : Expr => match t with | .Name id pos => if env.kindOf id == some .local && pos.line == (ts.head?.map (·.pos.line)).getD 0 then some id else none | _ => (none : Option Str)) ts ⟨t, ht, odd_none _ _ _ ho⟩
          have ne : ((ts.filterMap fun t : Expr => match t with | .Name id pos => if env.kindOf id == some .local && pos.line == (ts.head?.map (·.pos.line)).getD 0 then some id else none | _ => (none : Option Str)).length != ts.length) = true := by
            rw [bne_iff_ne]; omega
          split
          · rfl
          · split
            · rfl
            · refine if_pos ?_
              rw [Bool.or_eq_true]
              exact .inl ne
      · rename_i h3 
        cases h2
        cases h3
        simp only at h
        simp only [h, Bool.true_or, if_true]
      · cases h2
    · rfl
def isLc : E → Bool
  | .lc _ _ _ _ _ => true | .lcp _ _ _ _ _ => true | _ => false
def nmE (N : List Str) (sc : Scope) (fb : Str → Bool) (i : Nat) (y : Str) : Bool := decide (N[i]? = some y) && locB sc y && (fb y || lclB sc y)
def chkA (tb : Tb) (N : List Str) (sc : Scope) (fb : Str → Bool) : T → E → Expr → Expr → Bool
  | .tp (.cons (.nm i) (.cons (.nm j) .nil)), .tup exs, .Tuple [.Name x px, .Name y py] _ _, .Tuple [a, b] _ _ => par2 sc x y px py a b && chkEs tb N sc fb exs [a, b] && decide (N[i]? = some x) && decide (N[j]? = some y) && !(i == j)
  | .tp (.cons (.nm i) (.cons (.nm j) (.cons (.nm l) .nil))), .tup exs, .Tuple [.Name x px, .Name y py, .Name z pz] _ _, .Tuple [a, b, c] _ _ =>
    par3 sc x y z px py pz a b c && chkEs tb N sc fb exs [a, b, c] && decide (N[i]? = some x) && decide (N[j]? = some y) && decide (N[l]? = some z) && !(i == j) && !(i == l) && !(j == l)
  | .nm i, ex, .Name y py, e => swB sc y py e && isLc ex && chkE tb N sc fb ex e && decide (N[i]? = some y)
  | _, _, _, _ => false
def chkMs (tb : Tb) (N : List Str) (sc : Scope) (fb : Str → Bool) : Ms → List Expr → Bool
  | .nil, [] => true
  | .cons own _ ex ms, e :: es => notStar e && chkE tb N sc fb ex e && (!own || isFr ex) && chkMs tb N sc fb ms es
  | _, _ => false
def chkM (tb : Tb) (N : List Str) (sc : Scope) (fb : Str → Bool) : Ms → Expr → Expr → Bool
  | .cons o1 i e1 (.cons o2 j e2 .nil), .Tuple [.Name x px, .Name y py] _ _, .Tuple [a, b] _ _ => par2 sc x y px py a b && chkMs tb N sc fb (.cons o1 i e1 (.cons o2 j e2 .nil)) [a, b] && decide (N[i]? = some x) && decide (N[j]? = some y) && !(i == j)
  | .cons o1 i e1 (.cons o2 j e2 (.cons o3 l e3 .nil)), .Tuple [.Name x px, .Name y py, .Name z pz] _ _, .Tuple [a, b, c] _ _ =>
    par3 sc x y z px py pz a b c && chkMs tb N sc fb (.cons o1 i e1 (.cons o2 j e2 (.cons o3 l e3 .nil))) [a, b, c] && decide (N[i]? = some x) && decide (N[j]? = some y) && decide (N[l]? = some z) && !(i == j) && !(i == l) && !(j == l)
  | _, _, _ => false
mutual
def chkS (tb : Tb) (N : List Str) (sc : Scope) (fb : Str → Bool) : Sx → Stmt → Bool
  | .asg t ex, .Assign [tg] e _ => (chkT N sc fb t tg && notStar tg && chkE tb N sc fb ex e && nsw sc tg e && nsp sc tg e) || chkA tb N sc fb t ex tg e
  | .own i ex, .Assign [.Name y py] e _ => isFr ex && chkE tb N sc fb ex e && nmE N sc fb i y && (nsw sc (.Name y py) e || (swB sc y py e && isLc ex))
  | .put o i ex, .Assign [.Subscript eo ei _] e _ => chkE tb N sc fb ex e && chkE tb N sc fb o eo && chkE tb N sc fb i ei && noSlice ei
  | .pst i k ex, .Assign [.Subscript (.Name x _) ei _] e _ => decide (N[i]? = some x) && visB sc x && okN x && chkE tb N sc fb ex e && chkE tb N sc fb k ei && noSlice ei
  | .ex ex, .Expr e _ => chkE tb N sc fb ex e && noComp e
  | .ret ex, .Return (some e) _ => chkE tb N sc fb ex e
  | .iff c a b, .If e xs ys _ => chkE tb N sc fb c e && tstOk c e && chkSs tb N sc fb a xs && chkSs tb N sc fb b ys
  | .fr t it b, .For tg iter body [] _ => chkI tb N sc fb it iter && okIt it tg && notSet iter && chkT N sc fb t tg && chkSs tb N sc fb b body
  | .apS i ex, .Expr (.Call (.Attribute (.Name x _) m apos) [b] [] cpos) _ => decide (N[i]? = some x) && visB sc x && okN x && decide (m = "append") && (apos.endLine == cpos.line) && notStar b && chkE tb N sc fb ex b
  | .sat c o f ex, .Assign [.Attribute eo g _] e _ => decide (f = g) && naB tb.na c f && chkE tb N sc fb ex e && chkE tb N sc fb o eo
  | .par ms, .Assign [tg] e _ => chkM tb N sc fb ms tg e
  | .bad, _ => true
  | .asa c i o f ex, .Assign [.Tuple [.Name x px, .Attribute eo g pa] k pt] e _ => nmE N sc fb i x && decide (f = g) && naB tb.na c f && chkE tb N sc fb ex e && chkE tb N sc fb o eo && notTup e
  | .aug c o f ex, .AugAssign (.Attribute eo g _) .Add e _ => decide (f = g) && naB tb.na c f && chkE tb N sc fb ex e && chkE tb N sc fb o eo
  | .xtS i ex, .Expr (.Call (.Attribute (.Name x _) m apos) [b] [] cpos) _ => decide (N[i]? = some x) && visB sc x && okN x && decide (m = "extend") && (apos.endLine == cpos.line) && notStar b && chkE tb N sc fb ex b
  | _, _ => false
def chkSs (tb : Tb) (N : List Str) (sc : Scope) (fb : Str → Bool) : Ss → List Stmt → Bool
  | .cons (.frz _) ss, sts => chkSs tb N sc fb ss sts
  | .cons s ss, st :: sts => chkS tb N sc fb s st && chkSs tb N sc fb ss sts
  | .nil, [] => true
  | _, _ => false
end
end Wf
set_option Elab.async false
set_option linter.all false
namespace Wf
open PySem L2
section
variable {G : Cr} {C : Orc} {tb : Tb} {n : Nat} {X : Cx}
theorem invS_asg {T N sc fb t ex X0} (h : chkS T N sc fb (.asg t ex) X0 = true) : ∃ tg e p, X0 = .Assign [tg] e p ∧ ((chkT N sc fb t tg && notStar tg && chkE T N sc fb ex e && nsw sc tg e && nsp sc tg e) || chkA T N sc fb t ex tg e) = true := by
  unfold chkS at h; split at h
  all_goals first | (cases h; done) | skip
  all_goals rename_i h1
  all_goals first | (cases h1; done) | skip
  all_goals cases h1
  exact ⟨_, _, _, rfl, h⟩
theorem invS_own {T N sc fb i ex X0} (h : chkS T N sc fb (.own i ex) X0 = true) : ∃ y p1 e p, X0 = .Assign [.Name y p1] e p ∧ (isFr ex && chkE T N sc fb ex e && nmE N sc fb i y && (nsw sc (.Name y p1) e || (swB sc y p1 e && isLc ex))) = true := by
  unfold chkS at h; split at h
  all_goals first | (cases h; done) | skip
  all_goals rename_i h1
  all_goals first | (cases h1; done) | skip
  all_goals cases h1
  exact ⟨_, _, _, _, rfl, h⟩
theorem invS_put {T N sc fb o i ex X0} (h : chkS T N sc fb (.put o i ex) X0 = true) : ∃ eo ei p1 e p, X0 = .Assign [.Subscript eo ei p1] e p ∧ (chkE T N sc fb ex e && chkE T N sc fb o eo && chkE T N sc fb i ei && noSlice ei) = true := by
  unfold chkS at h; split at h
  all_goals first | (cases h; done) | skip
  all_goals rename_i h1
  all_goals first | (cases h1; done) | skip
  all_goals cases h1
  exact ⟨_, _, _, _, _, rfl, h⟩
theorem invS_pst {T N sc fb k i ex X0} (h : chkS T N sc fb (.pst i k ex) X0 = true) : ∃ x p0 ei p1 e p, X0 = .Assign [.Subscript (.Name x p0) ei p1] e p ∧ (decide (N[i]? = some x) && visB sc x && okN x && chkE T N sc fb ex e && chkE T N sc fb k ei && noSlice ei) = true := by
  unfold chkS at h; split at h
  all_goals first | (cases h; done) | skip
  all_goals rename_i h1
  all_goals first | (cases h1; done) | skip
  all_goals cases h1
  exact ⟨_, _, _, _, _, _, rfl, h⟩
theorem invS_ex {T N sc fb ex X0} (h : chkS T N sc fb (.ex ex) X0 = true) : ∃ e p, X0 = .Expr e p ∧ (chkE T N sc fb ex e && noComp e) = true := by
  unfold chkS at h; split at h
  all_goals first | (cases h; done) | skip
  all_goals rename_i h1
  all_goals first | (cases h1; done) | skip
  all_goals cases h1
  exact ⟨_, _, rfl, h⟩
theorem invS_ret {T N sc fb ex X0} (h : chkS T N sc fb (.ret ex) X0 = true) : ∃ e p, X0 = .Return (some e) p ∧ chkE T N sc fb ex e = true := by
  unfold chkS at h; split at h
  all_goals first | (cases h; done) | skip
  all_goals rename_i h1
  all_goals first | (cases h1; done) | skip
  all_goals cases h1
  exact ⟨_, _, rfl, h⟩
theorem invS_iff {T N sc fb c a b X0} (h : chkS T N sc fb (.iff c a b) X0 = true) : ∃ e xs ys p, X0 = .If e xs ys p ∧ (chkE T N sc fb c e && tstOk c e && chkSs T N sc fb a xs && chkSs T N sc fb b ys) = true := by
  unfold chkS at h; split at h
  all_goals first | (cases h; done) | skip
  all_goals rename_i h1
  all_goals first | (cases h1; done) | skip
  all_goals cases h1
  exact ⟨_, _, _, _, rfl, h⟩
theorem invS_fr {T N sc fb t it b X0} (h : chkS T N sc fb (.fr t it b) X0 = true) : ∃ tg iter body p, X0 = .For tg iter body [] p ∧ (chkI T N sc fb it iter && okIt it tg && notSet iter && chkT N sc fb t tg && chkSs T N sc fb b body) = true := by
  unfold chkS at h; split at h
  all_goals first | (cases h; done) | skip
  all_goals rename_i h1
  all_goals first | (cases h1; done) | skip
  all_goals cases h1
  exact ⟨_, _, _, _, rfl, h⟩
theorem invS_apS {T N sc fb i ex X0} (h : chkS T N sc fb (.apS i ex) X0 = true) : ∃ x p0 m ap b cp p, X0 = .Expr (.Call (.Attribute (.Name x p0) m ap) [b] [] cp) p ∧ (decide (N[i]? = some x) && visB sc x && okN x && decide (m = "append") && (ap.endLine == cp.line) && notStar b && chkE T N sc fb ex b) = true := by
  unfold chkS at h; split at h
  all_goals first | (cases h; done) | skip
  all_goals rename_i h1
  all_goals first | (cases h1; done) | skip
  all_goals cases h1
  exact ⟨_, _, _, _, _, _, _, rfl, h⟩
theorem invS_sat {T N sc fb c o f ex X0} (h : chkS T N sc fb (.sat c o f ex) X0 = true) : ∃ eo f' p1 e p, X0 = .Assign [.Attribute eo f' p1] e p ∧ (decide (f = f') && naB T.na c f && chkE T N sc fb ex e && chkE T N sc fb o eo) = true := by
  unfold chkS at h; split at h
  all_goals first | (cases h; done) | skip
  all_goals rename_i h1
  all_goals first | (cases h1; done) | skip
  all_goals cases h1
  exact ⟨_, _, _, _, _, rfl, h⟩
theorem invS_asa {T N sc fb c i o f ex X0} (h : chkS T N sc fb (.asa c i o f ex) X0 = true) : ∃ x px eo g pa k pt e p, X0 = .Assign [.Tuple [.Name x px, .Attribute eo g pa] k pt] e p ∧ (nmE N sc fb i x && decide (f = g) && naB T.na c f && chkE T N sc fb ex e && chkE T N sc fb o eo && notTup e) = true := by
  unfold chkS at h; split at h
  all_goals first | (cases h; done) | skip
  all_goals rename_i h1
  all_goals first | (cases h1; done) | skip
  all_goals cases h1
  exact ⟨_, _, _, _, _, _, _, _, _, rfl, h⟩
theorem invS_aug {T N sc fb c o f ex X0} (h : chkS T N sc fb (.aug c o f ex) X0 = true) : ∃ eo g pa e p, X0 = .AugAssign (.Attribute eo g pa) .Add e p ∧ (decide (f = g) && naB T.na c f && chkE T N sc fb ex e && chkE T N sc fb o eo) = true := by
  unfold chkS at h; split at h
  all_goals first | (cases h; done) | skip
  all_goals rename_i h1
  all_goals first | (cases h1; done) | skip
  all_goals cases h1
  exact ⟨_, _, _, _, _, rfl, h⟩
theorem invS_xtS {T N sc fb i ex X0} (h : chkS T N sc fb (.xtS i ex) X0 = true) : ∃ x p0 m apos b cpos p, X0 = .Expr (.Call (.Attribute (.Name x p0) m apos) [b] [] cpos) p ∧ (decide (N[i]? = some x) && visB sc x && okN x && decide (m = "extend") && (apos.endLine == cpos.line) && notStar b && chkE T N sc fb ex b) = true := by
  unfold chkS at h; split at h
  all_goals first | (cases h; done) | skip
  all_goals rename_i h1
  all_goals first | (cases h1; done) | skip
  all_goals cases h1
  exact ⟨_, _, _, _, _, _, _, rfl, h⟩
theorem invS_par {T N sc fb ms X0} (h : chkS T N sc fb (.par ms) X0 = true) : ∃ tg e p, X0 = .Assign [tg] e p ∧ chkM T N sc fb ms tg e = true := by
  unfold chkS at h; split at h
  all_goals first | (cases h; done) | skip
  all_goals rename_i h1
  all_goals first | (cases h1; done) | skip
  all_goals cases h1
  exact ⟨_, _, _, rfl, h⟩
theorem invS_frz {T N sc fb i X0} (h : chkS T N sc fb (.frz i) X0 = true) : False := by
  unfold chkS at h
  cases h
theorem nsw_sub {o i e : Expr} {p : Pos} {env : PySem.Env} {l : Nat} : swapsWithSole [.Subscript o i p] e l env = pure false := nsw_sw (tg := .Subscript o i p) (env := env) (l := l) (by unfold nsw; exact Bool.or_true _)
theorem each_one {tg : Expr} {env : PySem.Env} (h : notStar tg = true) : (assignEach [tg] env).map (·.2) = [assign tg env] := each_cons h
/-- y = [… for …] by the name itself -/
theorem sndLc (g : Gd G C tb n X) {i : Nat} {y : Str} {py p : Pos} {e : Expr} {ex : E} (hs : swB X.env.scope y py e = true) (hl : isLc ex = true) (h0 : chkE tb X.N X.env.scope X.fn ex e = true) (hy : X.N[i]? = some y) : PS X (.Assign [.Name y py] e p) (tAsg (tF G C ex) (gName i)) := by
  cases ex <;> first | (cases hl; done) | skip
  · rename_i own t it c elt
    obtain ⟨x, tg, iter, ifs, scope, p2, rfl, h⟩ := invE_lc h0
    simp only [Bool.and_eq_true, List.all_eq_true] at h
    obtain ⟨⟨⟨⟨⟨⟨⟨h1, h1b⟩, h2⟩, h3⟩, h4⟩, h5⟩, h6⟩, h7⟩ := h
    unfold swB at hs
    simp only [Bool.and_eq_true, Bool.not_eq_true'] at hs
    have q := ps_setLc (pos := p2) (spos := p) (py := py) g.calm g.nd hy (lcl_of hs.1.1.2) (sw_true (isFun_of hs.1.1.1) (lcl_of hs.1.1.2) hs.1.2 hs.2) (sndI it X g tg iter h1 h1b) (blkOk_by h3) (fun s H Cc cl fp => sndT (X := X.blk s H scope (compEnvC scope cl Cc X.env) fp) g.calm g.K g.nd t tg h4)
      (fun s H Cc cl fp => sndC c (X.blk s H scope (compEnvC scope cl Cc X.env) fp) (g.blk _ _ _ _ _) ifs h6) (fun s H Cc cl fp => (sndE elt (X.blk s H scope (compEnvC scope cl Cc X.env) fp) (g.blk _ _ _ _ _) x h7).pe) (notSet_fold h2 X.env)
    have om := ownP_map (N := X.N) (own := own)
    refine impS q fun De σ H w => lc_reads (fun i hi => ?_) ?_
    · rw [om]
      exact List.contains_iff_mem.mp (h5 i hi)
    · rw [om]; exact w
  · rename_i own t it c elt
    obtain ⟨x, tg, yn, pn, ifs, scope, p2, rfl, h⟩ := invE_lcp h0
    simp only [Bool.and_eq_true, List.all_eq_true, decide_eq_true_eq] at h
    obtain ⟨⟨⟨⟨⟨⟨⟨h1, h1b⟩, h2⟩, h3⟩, h4⟩, h5⟩, h6⟩, h7⟩ := h
    unfold swB at hs
    simp only [Bool.and_eq_true, Bool.not_eq_true'] at hs
    have q := ps_setLc (pos := p2) (spos := p) (py := py) g.calm g.nd hy (lcl_of hs.1.1.2) (sw_true (isFun_of hs.1.1.1) (lcl_of hs.1.1.2) hs.1.2 hs.2) (pi_own (G := G) (tg := tg) (pn := pn) h1 (vis_of h1b) (okN_of h2).1 (okN_of h2).2) (blkOk_by h3) (fun s H Cc cl fp => sndT (X := X.blk s H scope (compEnvC scope cl Cc X.env) fp) g.calm g.K g.nd t tg h4)
      (fun s H Cc cl fp => sndC c (X.blk s H scope (compEnvC scope cl Cc X.env) fp) (g.blk _ _ _ _ _) ifs h6) (fun s H Cc cl fp => (sndE elt (X.blk s H scope (compEnvC scope cl Cc X.env) fp) (g.blk _ _ _ _ _) x h7).pe) (fun _ => rfl)
    have om := ownP_map (N := X.N) (own := own)
    refine impS q fun De σ H w => lcp_reads (fun i hi => ?_) ?_
    · rw [om]
      exact List.contains_iff_mem.mp (h5 i hi)
    · rw [om]; exact w
theorem sndA (g : Gd G C tb n X) {t : T} {ex : E} {tg e : Expr} {p : Pos} (h : chkA tb X.N X.env.scope X.fn t ex tg e = true) : PS X (.Assign [tg] e p) (tS G C (.asg t ex)) := by
  unfold chkA at h
  split at h
  · simp only [Bool.and_eq_true, decide_eq_true_eq, Bool.not_eq_true', beq_eq_false_iff_ne] at h
    obtain ⟨⟨⟨⟨h1, h2⟩, h3⟩, h4⟩, h5⟩ := h
    have hp := h1
    unfold par2 at hp
    simp only [Bool.and_eq_true] at hp
    exact sim_par g.calm g.nd h3 h4 h5 (lcl_of hp.1.1.1.1.1.1.1.2) (lcl_of hp.1.1.1.1.1.1.2) (sndEs _ X g _ h2) (par2_sw h1)
  · simp only [Bool.and_eq_true, decide_eq_true_eq, Bool.not_eq_true', beq_eq_false_iff_ne] at h
    obtain ⟨⟨⟨⟨⟨⟨⟨h1, h2⟩, h3⟩, h4⟩, h5⟩, h6⟩, h7⟩, h8⟩ := h
    have hp := h1
    unfold par3 at hp
    simp only [Bool.and_eq_true] at hp
    exact sim_par3 g.calm g.nd h3 h4 h5 h6 h7 h8 (lcl_of hp.1.1.1.1.1.1.1.1.1.1.1.1.2) (lcl_of hp.1.1.1.1.1.1.1.1.1.1.1.2) (lcl_of hp.1.1.1.1.1.1.1.1.1.1.2) (sndEs _ X g _ h2) (par3_sw h1)
  · simp only [Bool.and_eq_true, decide_eq_true_eq] at h
    exact asg_ofF (sndLc g h.1.1.1 h.1.1.2 h.1.2 h.2)
  · cases h
theorem sndMs (g : Gd G C tb n X) : ∀ (ms : Ms) (es : List Expr), chkMs tb X.N X.env.scope X.fn ms es = true → PA X es (tMs G C ms)
  | .nil, [], _ => simM_nil
  | .nil, _ :: _, h => by rw [chkMs] at h <;> first | (cases h; done) | (intros; simp_all)
  | .cons _ _ _ _, [], h => by rw [chkMs] at h <;> first | (cases h; done) | (intros; simp_all)
  | .cons own i ex ms, e :: es, h => by
    rw [chkMs] at h
    simp only [Bool.and_eq_true, Bool.or_eq_true, Bool.not_eq_true'] at h
    obtain ⟨⟨⟨h1, h2⟩, h3⟩, h4⟩ := h
    have ih := sndMs g ms es h4
    cases own with
    | false => exact simM_val (sndE ex X g e h2).pe ih (star_cons h1)
    | true =>
      rcases h3 with h3 | h3
      · cases h3
      · exact simM_own ((sndE ex X g e h2).pf h3) ih (star_cons h1)
theorem sndM (g : Gd G C tb n X) {ms : Ms} {tg e : Expr} {p : Pos} (h : chkM tb X.N X.env.scope X.fn ms tg e = true) : PS X (.Assign [tg] e p) (tS G C (.par ms)) := by
  unfold chkM at h
  split at h
  · simp only [Bool.and_eq_true, decide_eq_true_eq, Bool.not_eq_true', beq_eq_false_iff_ne] at h
    obtain ⟨⟨⟨⟨h1, h2⟩, h3⟩, h4⟩, h5⟩ := h
    have hp := h1
    unfold par2 at hp
    simp only [Bool.and_eq_true] at hp
    exact sim_ms2 g.calm g.nd h3 h4 h5 (lcl_of hp.1.1.1.1.1.1.1.2) (lcl_of hp.1.1.1.1.1.1.2) (sndMs g _ _ h2) (par2_sw h1)
  · simp only [Bool.and_eq_true, decide_eq_true_eq, Bool.not_eq_true', beq_eq_false_iff_ne] at h
    obtain ⟨⟨⟨⟨⟨⟨⟨h1, h2⟩, h3⟩, h4⟩, h5⟩, h6⟩, h7⟩, h8⟩ := h
    have hp := h1
    unfold par3 at hp
    simp only [Bool.and_eq_true] at hp
    exact sim_ms3 g.calm g.nd h3 h4 h5 h6 h7 h8 (lcl_of hp.1.1.1.1.1.1.1.1.1.1.1.1.2) (lcl_of hp.1.1.1.1.1.1.1.1.1.1.1.2) (lcl_of hp.1.1.1.1.1.1.1.1.1.1.2) (sndMs g _ _ h2) (par3_sw h1)
  · cases h
theorem lt_of_get {α : Type} {l : List α} {i : Nat} {x : α} (h : l[i]? = some x) : i < l.length := (List.getElem?_eq_some_iff.mp h).1
mutual
theorem sndS (sx : Sx) (X : Cx) (g : Gd G C tb n X) (st : Stmt) (h0 : chkS tb X.N X.env.scope X.fn sx st = true) : PS X st (tS G C sx) := by
  match sx with
  | .asg t ex =>
    obtain ⟨tg, e, p, rfl, h⟩ := invS_asg h0
    rw [Bool.or_eq_true] at h
    rcases h with h | h
    · simp only [Bool.and_eq_true] at h
      obtain ⟨⟨⟨⟨h1, h2⟩, h3⟩, h4⟩, h5⟩ := h
      exact sim_asg (sndE ex X g e h3).pe (sndT g.calm g.K g.nd t tg h1) (nsw_sw h4) (nsp_sw h5) (each_one h2)
    · exact sndA g h
  | .own i ex =>
    obtain ⟨y, py, e, p, rfl, h⟩ := invS_own h0
    simp only [Bool.and_eq_true, Bool.or_eq_true, nmE, decide_eq_true_eq] at h
    obtain ⟨⟨⟨h1, h2⟩, ⟨⟨h3, h4⟩, h5⟩⟩, h6⟩ := h
    refine own_of (lt_of_get h3) ?_
    rcases h6 with h6 | h6
    · exact set_F g.nd h3 (loc_of h4) ((sndE ex X g e h2).pf h1) (nsw_sw h6) (h5.imp id lcl_of)
    · exact sndLc g h6.1 h6.2 h2 h3
  | .put o i ex =>
    obtain ⟨eo, ei, p1, e, p, rfl, h⟩ := invS_put h0
    simp only [Bool.and_eq_true] at h
    exact sim_put g.u1 (sndE ex X g e h.1.1.1).pe (sndE o X g eo h.1.1.2).pe (sndE i X g ei h.1.2).pe h.2 nsw_sub
  | .pst i k ex =>
    obtain ⟨x, p0, ei, p1, e, p, rfl, h⟩ := invS_pst h0
    simp only [Bool.and_eq_true, decide_eq_true_eq] at h
    obtain ⟨⟨⟨⟨⟨h1, h2⟩, h3⟩, h4⟩, h5⟩, h6⟩ := h
    exact sim_pst g.u1 h1 (vis_of h2) (okN_of h3).1 (okN_of h3).2 (sndE ex X g e h4).pe (sndE k X g ei h5).pe h6 nsw_sub
  | .ex ex =>
    obtain ⟨e, p, rfl, h⟩ := invS_ex h0
    rw [Bool.and_eq_true] at h
    exact sim_ex (sndE ex X g e h.1).pe (noComp_sw h.2 _ _ _)
  | .ret ex =>
    obtain ⟨e, p, rfl, h⟩ := invS_ret h0
    exact sim_ret (sndE ex X g e h).pe
  | .iff c a b =>
    obtain ⟨e, xs, ys, p, rfl, h⟩ := invS_iff h0
    simp only [Bool.and_eq_true] at h
    exact sim_iff ((sndE c X g e h.1.1.1).pt h.1.1.2) (sndSs a X g xs h.1.2) (sndSs b X g ys h.2)
  | .fr t it b =>
    obtain ⟨tg, iter, body, p, rfl, h⟩ := invS_fr h0
    simp only [Bool.and_eq_true] at h
    exact sim_fr g.calm g.xe (sndI it X g tg iter h.1.1.1.1 h.1.1.1.2) (sndT g.calm g.K g.nd t tg h.1.2) (sndSs b X g body h.2) (notSet_fold h.1.1.2 X.env)
  | .apS i ex =>
    obtain ⟨x, p0, m, ap, b, cp, p, rfl, h⟩ := invS_apS h0
    simp only [Bool.and_eq_true, decide_eq_true_eq] at h
    obtain ⟨⟨⟨⟨⟨⟨h1, h2⟩, h3⟩, rfl⟩, h4⟩, h5⟩, h6⟩ := h
    exact sim_apS h1 (vis_of h2) (okN_of h3).1 (okN_of h3).2 (sndE ex X g b h6).pe h4 h5
  | .frz i => exact (invS_frz h0).elim
  | .sat c o f ex =>
    obtain ⟨eo, f', p1, e, p, rfl, h⟩ := invS_sat h0
    simp only [Bool.and_eq_true, decide_eq_true_eq] at h
    obtain ⟨⟨⟨rfl, h1⟩, h2⟩, h3⟩ := h
    exact sim_sat (fun Cc hc => ⟨g.cls c Cc hc, g.na c f (naB_mem h1) Cc hc⟩) (sndE ex X g e h2).pe (sndE o X g eo h3).pe (nsw_sw (tg := .Attribute eo f p1) (by unfold nsw; exact Bool.or_true _))
  | .par ms =>
    obtain ⟨tg, e, p, rfl, h⟩ := invS_par h0
    exact sndM g h
  | .bad => exact simS_bad
  | .asa c i o f ex =>
    obtain ⟨x, px, eo, f', pa, k, pt, e, p, rfl, h⟩ := invS_asa h0
    simp only [Bool.and_eq_true, Bool.or_eq_true, nmE, decide_eq_true_eq] at h
    obtain ⟨⟨⟨⟨⟨⟨⟨h1, h2⟩, h3⟩, rfl⟩, h4⟩, h5⟩, h6⟩, h7⟩ := h
    exact sim_asa (fun Cc hc => ⟨g.cls c Cc hc, g.na c f (naB_mem h4) Cc hc⟩) g.calm g.K g.nd h1 (loc_of h2) (h3.imp id lcl_of) (sndE ex X g e h5).pe (sndE o X g eo h6).pe (nsw_sw (env := X.env) (l := p.line) (tg := .Tuple [.Name x px, .Attribute eo f pa] k pt) (by unfold nsw; exact Bool.or_true _)) (nsp_sw (by unfold nsp; rw [h7]; rfl))
  | .aug c o f ex =>
    obtain ⟨eo, f', pa, e, p, rfl, h⟩ := invS_aug h0
    simp only [Bool.and_eq_true, decide_eq_true_eq] at h
    obtain ⟨⟨⟨rfl, h1⟩, h2⟩, h3⟩ := h
    exact sim_aug (fun Cc hc => ⟨g.cls c Cc hc, g.na c f (naB_mem h1) Cc hc⟩) (sndE ex X g e h2).pe (sndE o X g eo h3).pe
  | .xtS i ex =>
    obtain ⟨x, p0, m, ap, b, cp, p, rfl, h⟩ := invS_xtS h0
    simp only [Bool.and_eq_true, decide_eq_true_eq] at h
    obtain ⟨⟨⟨⟨⟨⟨h1, h2⟩, h3⟩, rfl⟩, h4⟩, h5⟩, h6⟩ := h
    exact sim_xtS h1 (vis_of h2) (okN_of h3).1 (okN_of h3).2 (sndE ex X g b h6).pe h4 h5
theorem sndSs (ss : Ss) (X : Cx) (g : Gd G C tb n X) (sts : List Stmt) (h0 : chkSs tb X.N X.env.scope X.fn ss sts = true) : PSs X sts (tSs G C ss) := by
  match ss with
  | .nil =>
    unfold chkSs at h0
    split at h0 <;> first | (cases h0; done) | skip
    all_goals rename_i h1
    all_goals first | (cases h1; done) | skip
    exact simS_nil
  | .cons s ss =>
    have hr : (∃ i, s = .frz i ∧ chkSs tb X.N X.env.scope X.fn ss sts = true) ∨ ∃ st rest, sts = st :: rest ∧ chkS tb X.N X.env.scope X.fn s st = true ∧ chkSs tb X.N X.env.scope X.fn ss rest = true := by
      unfold chkSs at h0
      split at h0 <;> first | (cases h0; done) | skip
      · rename_i h1; cases h1; exact .inl ⟨_, rfl, h0⟩
      · rename_i h1; cases h1
        rw [Bool.and_eq_true] at h0
        exact .inr ⟨_, _, rfl, h0⟩
      · rename_i h1; cases h1
    rcases hr with ⟨i, hs, h⟩ | ⟨st, rest, rfl, h1, h2⟩
    · have ih := sndSs ss X g sts h
      rw [hs]
      exact simS_frz ih
    · exact simS_cons (sndS s X g st h1) (sndSs ss X g rest h2)
end
end
end Wf
set_option Elab.async false
set_option linter.all false
namespace Wf
open PySem PySem.Spec PyProof.Rows L2

/-! ### a def by its body, guards known -/
theorem fnG_of {P : Program} {w : World} {K : PySem.W.Frag} {mg : Str → Option Value} {base : Heap} {k : Nat} {f : Addr} {nm qn : Str} {pr : Arguments} {bd : List Stmt} {sco : Scope} {v1 v2 v3 v4 v5 v6 v7 : Value} {o1 o2 : Option Addr} {sl : Array (Option Value)} {N ps : List Str} {sp : Sp}
    (hl : K.lookup f = some ⟨v7, o2, .func (PySem.W.fnOf nm qn pr bd sco v1 v2 v3 v4 o1 v5 v6), sl⟩) (hc : PySem.W.codeIn K v5 qn = true) (fs : FnScope N ps sco) (ln : ∀ vs H Q E, sp vs H Q E → vs.length = ps.length)
    (hbd : ∀ (A : Around) (ou : List PySem.Env) (s : Shared) (H : Hp) (vs : List V) (Q : VK) (E : XK), Room k (A.deeper (envOfC qn sco s.heap.objs.size f v5)) → A.guards = some [] → sp vs H Q E →
      ∃ t, PSs (cxOf CX0 P w K mg base N qn sco f v5 A ou s H E) bd t ∧ t { nx := fun _ H' => Q .non H', rt := Q } (L2.start N vs) H) : FnG P w K mg base (k + 1) f (PySem.W.fnOf nm qn pr bd sco v1 v2 v3 v4 o1 v5 v6) ps sp := by
  refine ⟨ln, fun A ou s H args us vs Q E room gd env0 bi rel hsp => ?_⟩
  have hKs : K.In s.heap := env0.mod.kin.keeps fun b o z => (env0.bs b o z).1
  have nl : s.heap.NoLimit := env0.mod.nolimit.keeps fun b o z => (env0.bs b o z).1
  have kinds : ∀ y ∈ ps.zip us, sco.names.lookup y.1 = some .local ∨ (sco.names.lookup y.1 = some .cell ∧ ((cellsFrom (s.heap.objs.size + 1) sco.names []).lookup y.1).isSome = true) := by
    rintro ⟨z, v⟩ hz
    exact (fs.par z (List.of_mem_zip hz).1).imp id fun q => ⟨q, PySem.W.cellsFrom_some _ _ _ (.inl q)⟩
  apply codeAny_call_function room.depth (hKs _ _ hl) rfl fs.co fs.gen rfl (PySem.W.codeRec_of hKs hc)
  apply bi
  refine wpAny_newFunctionEnv_cells fs.kind kinds fun env he s1 x => ?_
  subst he
  refine ⟨nl.keeps x.toInCall.keep, codeAny_func ?_⟩
  obtain ⟨t, h1, h2⟩ := hbd A ou s H vs Q E (room.deeper _) gd hsp
  have iv : Inv (cxOf CX0 P w K mg base N qn sco f v5 A ou s H E) [] (L2.start N vs) H s1 := inv_start fs room.hd env0 (ln _ _ _ _ hsp) rel x
  refine wpAny_mono (h1.run [] s1 (L2.start N vs) H _ iv h2) (fun fl s' hs => ?_) fun e s' hs => hs
  cases fl with
  | next =>
    obtain ⟨_, H', J, q⟩ := hs
    exact ⟨V.non, H', J.os, J.bare, J.base, J.hok, rfl, q⟩
  | ret u =>
    obtain ⟨v, _, H', J, rv, q⟩ := hs
    exact ⟨v, H', J.os, J.bare, J.base, J.hok, rv, q⟩
  | brk => exact hs.choose_spec.choose_spec.2.elim
  | cont => exact hs.choose_spec.choose_spec.2.elim
end Wf
set_option Elab.async false
set_option linter.all false
namespace Wf
open PySem PySem.Spec PyProof.Rows L2

/-! ### a program: its defs, one by one -/
structure Df where
  d : He.DefD
  N : List Str
  ps : List Str
  f : Fn
def scB (N P : List Str) (sc : Scope) : Bool :=
  isFun sc && !sc.isCoroutine && !sc.isGenerator && decide N.Nodup && decide (N.take P.length = P) && P.all (fun x => locB sc x) && sc.names.all (fun y => match y.2 with | .free => false | _ => true)
theorem scB_ok {N P : List Str} {sc : Scope} (h : scB N P sc = true) : FnScope N P sc := by
  unfold scB at h
  simp only [Bool.and_eq_true, Bool.not_eq_true', decide_eq_true_eq, List.all_eq_true] at h
  obtain ⟨⟨⟨⟨⟨⟨h1, h2⟩, h3⟩, h4⟩, h5⟩, h6⟩, h7⟩ := h
  exact ⟨isFun_of h1, h2, h3, h4, h5, fun x hx => loc_of (h6 x hx), fun y hy z => by
    have q := h7 y hy
    rw [z] at q
    cases q⟩
def okDf (tb : Tb) (x : Df) : Bool := scB x.N x.ps x.d.scope && chkSs tb x.N x.d.scope (fun _ => true) x.f.body x.d.body && (x.f.ar == x.ps.length) && (x.f.n == x.N.length)
abbrev FunOf (K : PySem.W.Frag) (x : Df) (fd : FuncData) : Prop := FunD K x.d.name x.d.qual x.d.params x.d.body x.d.scope (x.d.dvs K) (x.d.kws K) (He.fAd K x.d.at_) fd
/-- all that the text and the head say -/
structure Says (G : Cr) (mg : Str → Option Value) (tb : Tb) (dfs : List (Nat × Df)) : Prop where
  ok : ∀ x ∈ dfs, okDf tb x.2 = true
  fn : ∀ x ∈ dfs, ∃ fd, FunOf G.K x.2 fd
  cb : ∀ c ∈ tb.cs, ∃ x, dfs.lookup c.f = some x ∧ tb.nm.lookup c.f = some x.d.name ∧ mg x.d.name = some (.ref (He.fAd G.K x.d.at_)) ∧ ∀ fd, FunOf G.K x fd → CB G fd x.ps c.np c.kn c.perm
  bi : ∀ f : Bi, mg (biName f) = none
  rng : mg "range" = none
  enm : mg "enumerate" = none
  isi : mg "isinstance" = none
  zip : mg "zip" = none
  bt : ∀ x ∈ btN, mg x = none
  ty : ∀ t : Ty, mg (tyName t) = none
  gl : ∀ q ∈ tb.gn, ∃ u v, mg q.1 = some u ∧ RelV v u ∧ ∀ H ρ B, VR G H ρ B q.2 v
  cls : ∀ (c : Nat) (Cc : Addr), G.cl c = some Cc → Cls G.K Cc
  na : ∀ (c : Nat) (f : Str), (c, f) ∈ tb.na → ∀ Cc, G.cl c = some Cc → NoAttr G.K Cc f
  mks : ∀ k ∈ tb.mks, ∃ Cc x, mg k.x = some (.ref Cc) ∧ G.cl k.c = some Cc ∧ dfs.lookup k.s.f = some x ∧ Mk G.K Cc (He.fAd G.K x.d.at_) ∧ ∀ fd, FunOf G.K x fd → CB G fd x.ps k.s.np k.s.kn k.s.perm
  mts : ∀ k ∈ tb.mts, ∃ x, dfs.lookup k.s.f = some x ∧ (∀ Cc, G.cl k.c = some Cc → Meth G.K Cc k.m (He.fAd G.K x.d.at_)) ∧ ∀ fd, FunOf G.K x fd → CB G fd x.ps k.s.np k.s.kn k.s.perm
/-- the program has them (and, perhaps, more) -/
def Has (p : Prg) (dfs : List (Nat × Df)) : Prop := ∀ (i : Nat) (x : Df), dfs.lookup i = some x → p.fs.lookup i = some x.f
theorem mem_lk {α : Type} {i : Nat} {x : α} : ∀ {l : List (Nat × α)}, l.lookup i = some x → (i, x) ∈ l
  | [], h => by cases h
  | (j, y) :: r, h => by
    rw [List.lookup_cons] at h
    split at h
    · rename_i e
      cases h
      rw [beq_iff_eq.mp e]
      exact List.mem_cons_self ..
    · exact List.mem_cons_of_mem _ (mem_lk h)
section
variable {G : Cr} {mg : Str → Option Value} {tb : Tb} {dfs : List (Nat × Df)} {p : Prg} {P : Program} {base : Heap}
theorem start_env {H : Hp} {ρ B : List Addr} {S : Sto} {ds : List D} {vs : List V} {N : List Str} {n : Nat} (h : n = N.length) (r : VRs G H ρ B ds vs) : ER G H ρ B B (L2.start N vs) (ds.map Sl.fz ++ List.replicate (n - ds.length) Sl.un) := by
  have lv := r.length
  refine ⟨by unfold L2.start; rw [List.length_append, List.length_append, List.length_map, List.length_map, List.length_replicate, List.length_replicate, lv, h], fun i x e => ?_, fun i j x y a e1 e2 o1 o2 => ?_⟩
  · by_cases hi : i < ds.length
    · rw [List.getElem?_append_left (by rw [List.length_map]; exact hi), List.getElem?_map] at e
      obtain ⟨d, e1, e2⟩ := Option.map_eq_some_iff.mp e
      subst e2
      obtain ⟨v, e3, q⟩ := r.get e1
      refine .fz ?_ q
      unfold L2.start
      rw [List.getElem?_append_left (by rw [List.length_map, lv]; exact hi), List.getElem?_map, e3]
      rfl
    · rw [List.getElem?_append_right (by rw [List.length_map]; omega)] at e
      have := List.mem_of_getElem? e
      rw [List.eq_of_mem_replicate this]
      exact .un
  · exfalso
    have m := List.mem_of_getElem? e1
    rcases List.mem_append.mp m with m | m
    · obtain ⟨d, _, e⟩ := List.mem_map.mp m
      rw [← e] at o1; cases o1
    · rw [List.eq_of_mem_replicate m] at o1; cases o1
theorem all_ok (hs : Says G mg tb dfs) (hp : Has p dfs) (n : Nat) : ∀ (i : Nat) (x : Df) (fd : FuncData), dfs.lookup i = some x → FunOf G.K x fd → FnG P G.w G.K mg base (2 * n) (He.fAd G.K x.d.at_) fd x.ps (spOf G (callN p n i)) := by
  induction n with
  | zero =>
    intro i x fd hx F
    refine ⟨fun vs H Q E ⟨_, _, _, _, _, _, _, _, e, _⟩ => (by cases e), fun A ou s H args us vs Q E _ _ _ _ _ ⟨_, _, _, _, _, _, _, _, e, _⟩ => (by cases e)⟩
  | succ n ih =>
    intro i x fd hx F
    obtain ⟨oc, od, dV, kV, doc, pm, an, cdv, ct, osl, rfl, lk, hcd, _, _⟩ := F.ex
    have mx := mem_lk hx
    have ok := hs.ok _ mx
    unfold okDf at ok
    simp only [Bool.and_eq_true, beq_iff_eq] at ok
    obtain ⟨⟨⟨h1, h2⟩, h3⟩, h4⟩ := ok
    have fs := scB_ok h1
    have hc : ∀ ds S r, callN p (n + 1) i ds S = some r → x.f.ar = ds.length ∧ runFn (orc p n) x.f ds S = some r := by
      intro ds S r e
      rw [callN] at e
      have e2 : p.fs.lookup i = some x.f := hp i x hx
      rw [e2] at e
      simp only at e
      split at e
      · rename_i hl
        exact ⟨hl, e⟩
      · cases e
    refine fnG_of (k := 2 * n + 1) lk hcd fs (fun vs H Q E ⟨ρ, B, S, ds, d, S', sr, r, e, _⟩ => ?_) fun A ou s H vs Q E room gd ⟨ρ, B, S, ds, d, S', sr, r, e, q⟩ => ?_
    · rw [r.length, ← (hc ds S _ e).1, h3]
    · refine ⟨tSs G (orc p n) x.f.body, ?_, ?_⟩
      · refine sndSs (n := 2 * n) (tb := tb) x.f.body _ ?_ _ h2
        refine ⟨rfl, rfl, rfl, fs.nd, PassesOwn.leaving, room, gd, hs.bi, hs.rng, hs.enm, hs.isi, hs.zip, hs.bt, hs.ty, fun c hc => ?_, hs.gl, hs.cls, hs.na, fun c hc => ?_, fun c hc => ?_⟩
        · obtain ⟨y, hy, hnm, hmg, cb⟩ := hs.cb c hc
          obtain ⟨fy, Fy⟩ := hs.fn _ (mem_lk hy)
          exact ⟨y.d.name, _, fy, y.ps, hnm, hmg, Fy.kp, cb fy Fy, ih c.f y fy hy Fy⟩
        · obtain ⟨Cc, y, hmg, hcl, hy, M, cb⟩ := hs.mks c hc
          obtain ⟨fy, Fy⟩ := hs.fn _ (mem_lk hy)
          exact ⟨Cc, _, fy, y.ps, hmg, hcl, M, cb fy Fy, ih c.s.f y fy hy Fy⟩
        · obtain ⟨y, hy, mt, cb⟩ := hs.mts c hc
          obtain ⟨fy, Fy⟩ := hs.fn _ (mem_lk hy)
          exact ⟨_, fy, y.ps, mt, cb fy Fy, ih c.s.f y fy hy Fy⟩
      · have e2 := (hc ds S _ e).2
        unfold runFn at e2
        have rs : RS G H ρ B [] (L2.start x.N vs) H (ds.map Sl.fz ++ List.replicate (x.f.n - ds.length) Sl.un) S ρ B :=
          ⟨sr, start_env (S := S) h4 r, fun _ h => h, fun _ h n => absurd h n, Ext.refl, fun _ h => by cases h⟩
        cases hev : evSs (orc p n) x.f.body (ds.map Sl.fz ++ List.replicate (x.f.n - ds.length) Sl.un) S with
        | none => rw [hev] at e2; cases e2
        | some fl =>
          rw [hev] at e2
          refine ⟨H, ρ, B, [], _, S, ρ, B, fl, rs, hev, ?_⟩
          cases fl with
          | rt d2 S2 =>
            cases e2
            exact fun v H2 ρ2 x2 s2 r2 => q v H2 ρ2 x2 s2 r2
          | nx env2 S2 =>
            cases e2
            exact fun σ2 H2 ρ2 B2 r2 => q .non H2 ρ2 r2.ext (r2.sr.weak r2.sub) .non
end
end Wf
set_option Elab.async false
set_option linter.all false
namespace Wf
open PySem PySem.Spec PyProof.Rows L2

/-! ### the law's own call -/
section
variable {P : Program} {w : World} {K : PySem.W.Frag} {mg mb : Str → Option Value} {k : Nat} {fa a : Addr} {fd : FuncData} {x : Str} {sp : Sp} {s : Shared} {vs : List Value} {ns : List Int} {H : Hp}
/-- one tracked heap, in which nothing but the script may lie -/
theorem law_core (kin : K.In s.heap) (gns : s.heap.Ns mainGlobals mg) (bns : s.heap.Ns builtinsNs mb) (bb : ∀ x : Str, x ≠ "__name__" → mb x = bootBuiltins x) (nl : s.heap.NoLimit) (ng : s.gens = #[])
    (la : s.heap.get? a = some { cls := .type "list", data := .seq vs.toArray }) (room : Room k callerA) (fn : ∀ base : Heap, FnG P w K mg base k fa fd [x] sp) (bind : BindsTo s fd ⟨[.ref a], []⟩ [(x, .ref a)])
    (hsp : sp [.ref a] H (fun v _ => v = .bl true) fun _ _ _ => False) (hok : HOk P w H s.heap) (only : ∀ b u, H b = some u → b = a ∧ K.lookup a = none ∧ ∃ o xs, u = .frz o (.lst xs)) :
    codeAny (model P w) callerA (.call (.ref fa) ⟨[.ref a], []⟩) (fun r s' => r = .ok (.ret (.bool true)) ∧ OldK s.heap s'.heap ∧ s'.os = s.os ∧ AllBare s'.gens) s := by
  have untr : ∀ {b : Addr} {o : Obj} {es : Array DictEntry} {m : Nat}, s.heap.get? b = some o → o.data = .dict es m → H b = none := by
    intro b o es m e1 e2
    cases hb : H b with
    | none => rfl
    | some u =>
      rw [(only b u hb).1, la] at e1
      cases e1
      exact absurd (show Data.seq vs.toArray _ = Data.dict es m from e2) (by intro z; cases z)
  have hid : ∀ {b : Addr} {f : Str → Option Value}, s.heap.Ns b f → (hidT s.heap H).Ns b f := fun ⟨o, es, m, e1, e2, e3⟩ => ⟨o, es, m, hidT_get e1 (untr e1 e2), e2, e3⟩
  have kin2 : K.In (hidT s.heap H) := by
    intro b o e
    refine hidT_get (kin b o e) ?_
    cases hb : H b with
    | none => rfl
    | some u =>
      have q := only b u hb
      rw [q.1, q.2.1] at e
      cases e
  obtain ⟨mc, l1, l2⟩ := nl
  have env0 : Env0 P w K mg (hidT s.heap H) callerA [] s H :=
    ⟨rfl, ⟨kin2, hid gns, ⟨mb, hid bns, bb⟩, ⟨mc, hid l1, l2⟩⟩, fun b o e => of_hidT e, Nat.le_of_eq (hidT_size _ _), trivial, fun b z => (List.not_mem_nil (show b ∈ ([] : List Addr) from z)).elim, hok, .of_eq ng⟩
  refine codeAny_mono ((fn _).run callerA [] s H ⟨[.ref a], []⟩ [.ref a] [.ref a] _ _ room rfl env0 bind (.cons rfl .nil) hsp) fun r s' h => ?_
  cases r with
  | error e => exact (show False from h).elim
  | ok fl =>
    cases fl with
    | ret u =>
      obtain ⟨v, H', os, bare, un, hok', ru, (q : v = V.bl true)⟩ := h
      subst q
      have ru' : u = Value.bool true := ru
      subst ru'
      refine ⟨rfl, OldK.of_keep fun b o e => ?_, os, bare⟩
      cases hb : H b with
      | none => exact un.keep b o e hb (fun z => (List.not_mem_nil (show b ∈ ([] : List Addr) from z)).elim) (by simp)
      | some u =>
        obtain ⟨_, _, ob, xs, rfl⟩ := only b u hb
        have g1 := (hok b _ hb).1
        have g2 := (hok' b _ (un.frzs b ob _ hb)).1
        rw [e] at g1
        cases g1
        exact g2
    | next => exact False.elim h
    | brk => exact False.elim h
    | cont => exact False.elim h
theorem law_callG (kin : K.In s.heap) (gns : s.heap.Ns mainGlobals mg) (bns : s.heap.Ns builtinsNs mb) (bb : ∀ x : Str, x ≠ "__name__" → mb x = bootBuiltins x) (nl : s.heap.NoLimit) (ng : s.gens = #[])
    (la : s.heap.get? a = some { cls := .type "list", data := .seq vs.toArray }) (hi : IntsAre vs ns) (sz : ns.length ≤ sizeLine) (room : Room k callerA) (fn : ∀ base : Heap, FnG P w K mg base k fa fd [x] sp) (bind : BindsTo s fd ⟨[.ref a], []⟩ [(x, .ref a)])
    (hsp : ∀ H, Scr K H a (ns.map V.int) → sp [.ref a] H (fun v _ => v = .bl true) fun _ _ _ => False) :
    codeAny (model P w) callerA (.call (.ref fa) ⟨[.ref a], []⟩) (fun r s' => r = .ok (.ret (.bool true)) ∧ OldK s.heap s'.heap ∧ s'.os = s.os ∧ AllBare s'.gens) s := by
  cases hk : K.lookup a with
  | some o =>
    have e := kin a o hk
    rw [la] at e
    cases e
    refine law_core (H := fun _ => none) kin gns bns bb nl ng la room fn bind (hsp _ (.inr ⟨_, vs.toArray, _, hk, rfl, rfl, rfl, ?_, ?_⟩)) (fun b u z => by cases z) fun b u z => by cases z
    · rw [List.size_toArray, hi.length]; exact sz
    · rw [List.toList_toArray]; exact vals_ints hi
  | none =>
    have eqH : ∀ b u, (if b = a then some (HO.frz { cls := .type "list", data := .seq vs.toArray } (.lst (ns.map V.int))) else none) = some u → b = a ∧ u = HO.frz { cls := .type "list", data := .seq vs.toArray } (.lst (ns.map V.int)) := fun b u z => by
      split at z
      · rename_i hb; cases z; exact ⟨hb, rfl⟩
      · cases z
    refine law_core (H := fun b => if b = a then some (.frz { cls := .type "list", data := .seq vs.toArray } (.lst (ns.map V.int))) else none) kin gns bns bb nl ng la room fn bind (hsp _ (.inl ⟨_, if_pos rfl⟩)) (fun b u z => ?_) fun b u z => ?_
    · obtain ⟨rfl, rfl⟩ := eqH b u z
      exact ⟨la, by rw [List.length_map]; exact sz, vs, _, vals_ints hi, la⟩
    · obtain ⟨rfl, rfl⟩ := eqH b u z
      exact ⟨rfl, hk, _, _, rfl⟩
end
/-- the walk of a law, from what its text and its head say -/
theorem walkG {l : PySem.W.OpenLaw} {n k i : Nat} {q : Program} {loose : List Str} {XP : (Str → Option Value) → Heap → Prop} {YP : World → Heap → Prop} {d : DefRec} {x : Str} {dfs : List (Nat × Df)} {p : Prg} {df : Df}
    (hn : l.most = some n) (hn2 : n ≤ sizeLine) (hdf : d.params.defaults = []) (room : Room (2 * k) callerA) (hi : dfs.lookup i = some df) (hp : Has p dfs) (hps : df.ps = [x]) (hat : df.d.name = d.name)
    (F : ∀ (w : World) (mg : Str → Option Value) (h : Heap), YP w h → h.Ns mainGlobals mg → ∃ (G : Cr) (tb : Tb), G.w = w ∧ G.K.In h ∧ Says G mg tb dfs ∧ mg df.d.name = some (.ref (He.fAd G.K df.d.at_)) ∧ (∀ fd, FunOf G.K df fd → ∀ (s : Shared) (u : Value), BindsTo s fd ⟨[u], []⟩ [(x, u)]))
    (run : ∀ ns : List Int, ns.length ≤ n → ∃ S', callN p k i [.scr ns] [] = some (.bl true, S')) :
    PySem.W.WalkO q loose XP YP l.row.toRowW d [] (fun f vs => PySem.call f vs) := by
  refine Att.attach_call hn hdf fun w s₀ s₁ mg mb fa o pm cd doc a vs ns Gd Y ho hd hcd hmg hobj hints hlen hg => ?_
  obtain ⟨G, tb, hw, kin, says, hm, hb⟩ := F w mg _ Y Gd.T.g
  subst hw
  obtain ⟨fd, Fd⟩ := says.fn _ (mem_lk hi)
  have hfa : fa = He.fAd G.K df.d.at_ := by
    have h1 : mg df.d.name = some (.ref fa) := by
      rw [hat]; exact hmg
    have h2 := h1.symm.trans hm
    cases h2
    rfl
  subst hfa
  refine law_callG kin Gd.T.g Gd.T.b Gd.T.builtins Gd.T.nolimit hg hobj hints (Nat.le_trans hlen hn2) room (fun base => hps ▸ all_ok says hp k i df fd hi Fd) (hb fd Fd s₁ _) fun H hS => ?_
  obtain ⟨S', e⟩ := run ns hlen
  refine ⟨[], [], [], [.scr ns], .bl true, S', ⟨rfl, List.nodup_nil, fun i o a e => (by cases e), fun a z => (by cases z)⟩, .cons (.scr hS) .nil, e, fun v H' ρ' _ _ r => ?_⟩
  cases r
  rfl
end Wf
set_option Elab.async false
set_option linter.all false
namespace Wf
open PySem PySem.Spec PyProof.Rows L2

/-! ### the module's constants, seen behind the top -/
mutual
def glB (K : PySem.W.Frag) : D → Value → Bool
  | .non, .none => true
  | .bl a, .bool b => a == b
  | .int i, .int j _ => decide (i = j)
  | .str x, .str y _ => decide (x = y)
  | .tup ds, .ref a => (match K.lookup a with
    | some ⟨.type c, _, .seq its _, _⟩ => decide (c = "tuple") && decide (its.size ≤ sizeLine) && glBs K ds its.toList
    | _ => false)
  | _, _ => false
def glBs (K : PySem.W.Frag) : List D → List Value → Bool
  | [], [] => true
  | d :: ds, u :: us => glB K d u && glBs K ds us
  | _, _ => false
end
mutual
theorem glB_ok {G : Cr} : ∀ (d : D) (u : Value), glB G.K d u = true → ∃ v, RelV v u ∧ ∀ H ρ B, VR G H ρ B d v
  | .non, u, h => by
    cases u <;> simp only [glB] at h <;> first | (cases h; done) | skip
    exact ⟨.non, rfl, fun _ _ _ => .non⟩
  | .bl a, u, h => by
    cases u <;> simp only [glB] at h <;> first | (cases h; done) | skip
    cases beq_iff_eq.mp h
    exact ⟨.bl a, rfl, fun _ _ _ => .bl a⟩
  | .int a, u, h => by
    cases u <;> simp only [glB] at h <;> first | (cases h; done) | skip
    cases of_decide_eq_true h
    exact ⟨.int a, ⟨_, rfl⟩, fun _ _ _ => .int a⟩
  | .str a, u, h => by
    cases u <;> simp only [glB] at h <;> first | (cases h; done) | skip
    cases of_decide_eq_true h
    exact ⟨.str a, ⟨_, rfl⟩, fun _ _ _ => .str a⟩
  | .tup ds, u, h => by
    cases u <;> simp only [glB] at h <;> first | (cases h; done) | skip
    rename_i a
    split at h
    · rename_i c od its n sl q
      simp only [Bool.and_eq_true, decide_eq_true_eq] at h
      obtain ⟨⟨h1, h2⟩, h3⟩ := h
      obtain ⟨vs, r, hv⟩ := glBs_ok ds _ h3
      exact ⟨.ref a, rfl, fun H ρ B => .tup (.inr ⟨_, its, n, q, congrArg Value.type h1, rfl, h2, r⟩) (hv H ρ B)⟩
    · cases h
  | .lst _, u, h => by cases u <;> simp only [glB] at h <;> cases h
  | .dct _, u, h => by cases u <;> simp only [glB] at h <;> cases h
  | .ref _, u, h => by cases u <;> simp only [glB] at h <;> cases h
  | .scr _, u, h => by cases u <;> simp only [glB] at h <;> cases h
  | .kdc _, u, h => by cases u <;> simp only [glB] at h <;> cases h
theorem glBs_ok {G : Cr} : ∀ (ds : List D) (us : List Value), glBs G.K ds us = true → ∃ vs, Vals vs us ∧ ∀ H ρ B, VRs G H ρ B ds vs
  | [], [], _ => ⟨[], .nil, fun _ _ _ => .nil⟩
  | [], _ :: _, h => by simp only [glBs] at h; cases h
  | _ :: _, [], h => by simp only [glBs] at h; cases h
  | d :: ds, u :: us, h => by
    rw [glBs, Bool.and_eq_true] at h
    obtain ⟨v, r, hv⟩ := glB_ok d u h.1
    obtain ⟨vs, rs, hs⟩ := glBs_ok ds us h.2
    exact ⟨v :: vs, .cons r rs, fun H ρ B => .cons (hv H ρ B) (hs H ρ B)⟩
end
def scD : D → Bool
  | .non => true | .bl _ => true | .int _ => true | .str _ => true | _ => false
def gvB (K : PySem.W.Frag) : D → Value → Bool
  | .kdc kvs, .ref a => kvs.all fun q => scD q.2 && (match PySem.W.nsIn K a q.1 with | some (some u) => glB K q.2 u | _ => false)
  | d, u => glB K d u
def gsB (gls : List (Str × D)) (K : PySem.W.Frag) : Bool := gls.all fun q => match PySem.W.nsIn K mainGlobals q.1 with | some (some u) => gvB K q.2 u | _ => false
def tabsOf (gls : List (Str × D)) : List He.Tab := gls.filterMap fun q => match q.2 with | .kdc kvs => some (fun K => He.ga K q.1, kvs.map (·.1)) | _ => none
/-- the address of a keyword-only default -/
def kwdAt (p : Str × Option Str) (x : Str) (K : PySem.W.Frag) : Addr := match K.lookup (He.fAd K p) with
  | some ⟨_, _, .func fd, _⟩ => (match fd.kwdefaults with
    | .ref D0 => (match PySem.W.nsIn K D0 x with
      | some (some (.ref a)) => a
      | _ => 0)
    | _ => 0)
  | _ => 0
/-- objects of the written part that are these values -/
def ksB (ks : List ((PySem.W.Frag → Addr) × D)) (K : PySem.W.Frag) : Bool := ks.all fun q => glB K q.2 (.ref (q.1 K))
theorem ksB_ok {G : Cr} {ks : List ((PySem.W.Frag → Addr) × D)} (h : ksB ks G.K = true) {q : (PySem.W.Frag → Addr) × D} (hq : q ∈ ks) : ∀ H ρ B, VR G H ρ B q.2 (.ref (q.1 G.K)) := by
  have h1 := List.all_eq_true.mp h q hq
  obtain ⟨v, r, hv⟩ := glB_ok q.2 _ h1
  have : v = .ref (q.1 G.K) := by
    cases v <;> first | (obtain ⟨_, z⟩ := r; cases z; done) | (cases r; done) | skip
    cases r
    rfl
  rw [← this]
  exact hv
abbrev AlW : Type := He.AlT × Bool
def obsW (fa : List He.Fa) (fn : List He.DefD) (gls : List (Str × D)) (ks : List ((PySem.W.Frag → Addr) × D)) (K : PySem.W.Frag) : AlW := (He.obsT fa fn (tabsOf gls) K, gsB gls K && ksB ks K)
def valW (fn : List He.DefD) (gls : List (Str × D)) (w : World) : AlW := (He.valT fn (tabsOf gls) w, true)
def SaysW (fa : List He.Fa) (fn : List He.DefD) (gls : List (Str × D)) (ks : List ((PySem.W.Frag → Addr) × D)) (w : World) (K : PySem.W.Frag) : Prop := obsW fa fn gls ks K = valW fn gls w
/-- one address more, where it is new -/
def addA (p : Nat × List Addr) (a : Addr) : Nat × List Addr := match Nat.beq (Nat.mod (Nat.shiftRight p.1 a) 2) 0 with
  | true => (Nat.add p.1 (Nat.shiftLeft 1 a), a :: p.2)
  | false => p
def addO (g : Addr → Option Obj) (p : Nat × List Addr) (a : Addr) : Nat × List Addr := match g a with
  | some o => (He.refsD o).foldl addA p
  | none => p
def asB (g : Addr → Option Obj) : Nat → List Addr → Nat → List Addr → List Addr
  | 0, fr, _, acc => acc ++ fr
  | n + 1, fr, m, acc => match fr.foldl (addO g) (m, []) with
    | (m', fr') => asB g n fr' m' (acc ++ fr)
/-- what is come to from the globals, so many steps far -/
def asF (g : Addr → Option Obj) (n : Nat) : List Addr := asB g n [mainGlobals] (Nat.shiftLeft 1 mainGlobals) []
def seeW (n : Nat) (fa : List He.Fa) (fn : List He.DefD) (gls : List (Str × D)) (ks : List ((PySem.W.Frag → Addr) × D)) (g : Addr → Option Obj) : AlW := obsW fa fn gls ks (He.frG g (asF g n))
def hookW (n : Nat) (fa : List He.Fa) (fn : List He.DefD) (gls : List (Str × D)) (ks : List ((PySem.W.Frag → Addr) × D)) : PySem.W.Hook where
  α := AlW
  obs := fun s => seeW n fa fn gls ks s.heap.get?
  val := fun w => valW fn gls w
  says := fun w h => ∃ K : PySem.W.Frag, K.In h ∧ SaysW fa fn gls ks w K
  of := fun _ _ e => ⟨_, He.frG_in, e⟩
  keeps := fun _ _ _ ⟨K, i, c⟩ k => ⟨K, PySem.W.Frag.In.keeps i k, c⟩
theorem seeW_eq {n : Nat} {fa : List He.Fa} {fn : List He.DefD} {gls : List (Str × D)} {ks : List ((PySem.W.Frag → Addr) × D)} {g : Addr → Option Obj} {s : Shared} (h : ∀ a, g a = s.heap.get? a) : seeW n fa fn gls ks g = (hookW n fa fn gls ks).obs s := by
  obtain rfl : g = s.heap.get? := funext h
  rfl
section
variable {fa : List He.Fa} {fn : List He.DefD} {gls : List (Str × D)} {ks : List ((PySem.W.Frag → Addr) × D)} {G : Cr} {h : Heap} {mg : Str → Option Value}
theorem ns_none {es : List DictEntry} {x : Str} {ks : List Str} {p : Params} (e : es.map He.keyOf = He.keysIn p ks) (hx : x ∉ ks) : es.find? (·.key.isStr x) = none ∧ es.any (·.refKey) = false := by
  induction es generalizing ks with
  | nil => exact ⟨rfl, rfl⟩
  | cons a r ih =>
    cases ks with
    | nil => cases e
    | cons k ks =>
      have e1 : He.keyOf a :: r.map He.keyOf = some (k, PyData.keyHash p k) :: He.keysIn p ks := e
      injection e1 with e2 e3
      obtain ⟨i1, i2⟩ := ih e3 fun z => hx (List.mem_cons_of_mem _ z)
      unfold He.keyOf at e2
      split at e2
      · rename_i y t q
        have e4 : y = k := by
          have := congrArg (fun z => z.map (·.1)) e2
          exact Option.some.inj this
        subst e4
        constructor
        · rw [List.find?_cons, q]
          have : (Value.str y t).isStr x = false := by
            show (y == x) = false
            exact beq_eq_false_iff_ne.mpr fun z => hx (by rw [← z]; exact List.mem_cons_self ..)
          rw [this]
          exact i1
        · rw [List.any_cons, i2, Bool.or_false]
          unfold DictEntry.refKey
          rw [q]
      · cases e2
theorem look_not {kvs : List (Str × D)} {x : Str} (h : kvs.lookup x = none) : x ∉ kvs.map (·.1) := by
  induction kvs with
  | nil => exact fun z => by cases z
  | cons q r ih =>
    obtain ⟨k, d⟩ := q
    rw [List.lookup_cons] at h
    split at h
    · cases h
    · rename_i hn
      intro z
      rcases List.mem_cons.mp z with z | z
      · rw [z] at hn
        exact absurd hn (by rw [beq_self_eq_true]; decide)
      · exact ih h z
theorem look_mem {kvs : List (Str × D)} {x : Str} {d : D} (h : kvs.lookup x = some d) : (x, d) ∈ kvs := by
  induction kvs with
  | nil => cases h
  | cons q r ih =>
    obtain ⟨k, e⟩ := q
    rw [List.lookup_cons] at h
    split at h
    · rename_i hn
      cases h
      rw [beq_iff_eq.mp hn]
      exact List.mem_cons_self ..
    · exact List.mem_cons_of_mem _ (ih h)
theorem gl_sc {K : PySem.W.Frag} {d : D} {u : Value} (hs : scD d = true) (h : glB K d u = true) : ∃ v, RelV v u ∧ VSc d v := by
  cases d <;> first | (cases hs; done) | skip
  all_goals (cases u <;> simp only [glB] at h <;> first | (cases h; done) | skip)
  · exact ⟨.non, rfl, rfl⟩
  · cases beq_iff_eq.mp h; exact ⟨.bl _, rfl, rfl⟩
  · cases of_decide_eq_true h; exact ⟨.int _, ⟨_, rfl⟩, rfl⟩
  · cases of_decide_eq_true h; exact ⟨.str _, ⟨_, rfl⟩, rfl⟩
theorem SaysW.gl (c : SaysW fa fn gls ks G.w G.K) (X : G.K.In h) (g : h.Ns mainGlobals mg) {q : Str × D} (hq : q ∈ gls) : ∃ u v, mg q.1 = some u ∧ RelV v u ∧ ∀ H ρ B, VR G H ρ B q.2 v := by
  have c2 : gsB gls G.K = true := (Bool.and_eq_true_iff.mp (show (gsB gls G.K && ksB ks G.K) = true from congrArg (fun z : AlW => z.2) c)).1
  have c3 := List.all_eq_true.mp c2 q hq
  split at c3
  · rename_i u e
    have hm := PySem.W.mg_of X g e
    obtain ⟨x, d⟩ := q
    by_cases hk : ∃ kvs a, d = .kdc kvs ∧ u = .ref a
    · obtain ⟨kvs, a, rfl, rfl⟩ := hk
      have c4 : (kvs.all fun q => scD q.2 && (match PySem.W.nsIn G.K a q.1 with | some (some u) => glB G.K q.2 u | _ => false)) = true := c3
      have ga : He.ga G.K x = a := by
        unfold He.ga
        have e' : PySem.W.nsIn G.K mainGlobals x = some (some (.ref a)) := e
        rw [e']
      have t1 : (tabsOf gls).map (fun t => He.dicW G.K (t.1 G.K)) = (tabsOf gls).map fun t => some (He.keysIn G.w.params t.2) := congrArg (fun z : AlW => z.1.2) c
      have t2 : (((fun K => He.ga K x), kvs.map (·.1)) : He.Tab) ∈ tabsOf gls := List.mem_filterMap.mpr ⟨_, hq, rfl⟩
      have t3 := List.map_inj_left.mp t1 _ t2
      have t4 : He.dicW G.K a = some (He.keysIn G.w.params (kvs.map (·.1))) := by
        have := t3
        simp only at this
        rw [ga] at this
        exact this
      obtain ⟨es, n, kd⟩ := He.dicW_ok t4
      have t5 : es.toList.map He.keyOf = He.keysIn G.w.params (kvs.map (·.1)) := by
        unfold He.dicW at t4
        rw [kd.at_] at t4
        simp only at t4
        split at t4
        · exact Option.some.inj t4
        · cases t4
      refine ⟨_, .ref a, hm, rfl, fun H ρ B => .kdc ⟨es, n, kd.at_, kd.lit, kd.low, fun y d hy => ?_, fun y hy => ?_⟩⟩
      · have c5 := List.all_eq_true.mp c4 _ (look_mem hy)
        rw [Bool.and_eq_true] at c5
        obtain ⟨h1, h2⟩ := c5
        split at h2
        · rename_i u2 e2
          obtain ⟨v, r, z⟩ := gl_sc h1 h2
          exact ⟨u2, v, e2, r, z⟩
        · cases h2
      · have z := ns_none t5 (look_not hy)
        unfold PySem.W.nsIn
        rw [kd.at_]
        simp only
        rw [z.1]
        simp only
        rw [z.2]
        rfl
    · have c4 : glB G.K d u = true := by
        have c5 : gvB G.K d u = true := c3
        unfold gvB at c5
        split at c5
        · exact absurd ⟨_, _, rfl, rfl⟩ hk
        · exact c5
      obtain ⟨v, r, hv⟩ := glB_ok d u c4
      exact ⟨u, v, hm, r, hv⟩
  · cases c3
theorem SaysW.kso (c : SaysW fa fn gls ks G.w G.K) : ksB ks G.K = true := (Bool.and_eq_true_iff.mp (show (gsB gls G.K && ksB ks G.K) = true from congrArg (fun z : AlW => z.2) c)).2
theorem SaysW.d (c : SaysW fa fn gls ks G.w G.K) : He.SaysD fa fn G.K := congrArg (fun z : AlW => z.1.1) c
end
/-! ### how a call binds -/
theorem cb_of {G : Cr} {x : Df} {fd : FuncData} {ps : List Str} {np : Nat} {kn : List Str} {perm : List Ag} (F : FunOf G.K x fd) (hd : x.d.dfl = [])
    (h : ∀ (kV doc pm : Value) (an : Option Addr) (cdv ct : Value) (us ws : List Value), us.length = np → ws.length = kn.length →
      ∃ zs, bindArgs (PySem.W.fnOf x.d.name x.d.qual x.d.params x.d.body x.d.scope .none kV doc pm an cdv ct) ⟨us, kn.zip ws⟩ = pure (ps.zip zs) ∧ PermR G (us ++ ws) perm zs ∧ zs.length = ps.length) : CB G fd ps np kn perm := by
  intro s us ws _ l1 l2
  obtain ⟨oc, od, dV, kV, doc, pm, an, cdv, ct, osl, rfl, lk, hcd, hD, hK⟩ := F.ex
  have hz : x.d.dvs G.K = [] := by unfold He.DefD.dvs; rw [hd]; rfl
  rcases hD with ⟨_, rfl⟩ | ⟨e, _⟩
  · obtain ⟨zs, e, p, l⟩ := h kV doc pm an cdv ct us ws l1 l2
    exact ⟨zs, .of_eq e, p, l⟩
  · exact absurd hz e
end Wf
set_option Elab.async false
set_option linter.all false
namespace Wf
open PySem PySem.Spec PyProof.Rows L2
/-! ### a call that leaves keyword-only parameters to their defaults -/
abbrev DefV (G : Cr) (q : Str × D) (u : Value) : Prop := ∃ v, RelV v u ∧ ∀ H ρ B, VR G H ρ B q.2 v
theorem miss_vals {G : Cr} {D0 : Addr} {kws : List (Str × V)} (hq : ∀ q ∈ kws, ∃ u, PySem.W.nsIn G.K D0 q.1 = some (some u) ∧ RelV q.2 u) : ∀ {miss : List (Str × D)}, (∀ q ∈ miss, ∃ v, (q.1, v) ∈ kws ∧ ∀ H ρ B, VR G H ρ B q.2 v) →
    ∃ mv : List Value, Paired (DefV G) miss mv ∧ ∀ q ∈ (miss.map (·.1)).zip mv, PySem.W.nsIn G.K D0 q.1 = some (some q.2)
  | [], _ => ⟨[], .nil, fun q h => by cases h⟩
  | m :: ms, h => by
    obtain ⟨v, hv, hr⟩ := h m List.mem_cons_self
    obtain ⟨u, e1, e2⟩ := hq _ hv
    obtain ⟨mv, p, a⟩ := miss_vals hq (miss := ms) fun q hq => h q (List.mem_cons_of_mem _ hq)
    refine ⟨u :: mv, .cons ⟨v, e2, hr⟩ p, fun q hq => ?_⟩
    rcases List.mem_cons.mp (show q ∈ (m.1, u) :: (ms.map (·.1)).zip mv from hq) with e | hq
    · rw [e]; exact e1
    · exact a q hq
theorem cb_ofK {G : Cr} {x : Df} {fd : FuncData} {ps : List Str} {np : Nat} {kn : List Str} {perm : List Ag} (F : FunOf G.K x fd) (hd : x.d.dfl = []) (hk : x.d.kwd ≠ []) (miss : List (Str × D)) (hm : ∀ q ∈ miss, ∃ v, (q.1, v) ∈ x.d.kws G.K ∧ ∀ H ρ B, VR G H ρ B q.2 v)
    (h : ∀ (D0 : Addr) (doc pm : Value) (an : Option Addr) (cdv ct : Value) (us ws mv : List Value), us.length = np → ws.length = kn.length → Paired (DefV G) miss mv →
      ∃ zs, KwChain D0 ((miss.map (·.1)).zip mv) (bindArgs (PySem.W.fnOf x.d.name x.d.qual x.d.params x.d.body x.d.scope .none (.ref D0) doc pm an cdv ct) ⟨us, kn.zip ws⟩) (ps.zip zs) ∧ PermR G (us ++ ws) perm zs ∧ zs.length = ps.length) : CB G fd ps np kn perm := by
  intro s us ws hKs l1 l2
  obtain ⟨oc, od, dV, kV, doc, pm, an, cdv, ct, osl, rfl, lk, hcd, hD, hK⟩ := F.ex
  have hz : x.d.dvs G.K = [] := by unfold He.DefD.dvs; rw [hd]; rfl
  rcases hD with ⟨_, rfl⟩ | ⟨e, _⟩
  · rcases hK with e | ⟨D0, rfl, hq⟩
    · exact absurd e (by unfold He.DefD.kws; intro z; exact hk (List.map_eq_nil_iff.mp z))
    · obtain ⟨mv, p, a⟩ := miss_vals hq hm
      obtain ⟨zs, e, pr, l⟩ := h D0 doc pm an cdv ct us ws mv l1 l2 p
      exact ⟨zs, BindsTo.of_looks fun M => KwChain.looks hKs a e, pr, l⟩
  · exact absurd hz e
end Wf
set_option Elab.async false
set_option linter.all false
/-! What the evaluator answers, from the left. -/
namespace Wf
open PySem L2
def Ok {α : Type} (x : Option α) (Q : α → Prop) : Prop := ∃ a, x = some a ∧ Q a
section
variable {α β : Type} {Q : α → Prop}
theorem Ok_some {a : α} : Ok (some a) Q = Q a := by
  apply propext
  exact ⟨fun ⟨_, e, q⟩ => (Option.some.inj e) ▸ q, fun q => ⟨a, rfl, q⟩⟩
theorem Ok_none : Ok (none : Option α) Q = False := by
  apply propext
  exact ⟨fun ⟨_, e, _⟩ => (by cases e), fun z => z.elim⟩
theorem Ok_bind {x : Option β} {f : β → Option α} : Ok (x.bind f) Q = Ok x fun a => Ok (f a) Q := by
  apply propext
  cases x with
  | none => exact ⟨fun ⟨_, e, _⟩ => (by cases e), fun ⟨_, e, _⟩ => (by cases e)⟩
  | some b => rw [Ok_some]; exact Iff.rfl
theorem Ok_map {x : Option β} {f : β → α} : Ok (x.map f) Q = Ok x fun a => Q (f a) := by
  apply propext
  cases x with
  | none => exact ⟨fun ⟨_, e, _⟩ => (by cases e), fun ⟨_, e, _⟩ => (by cases e)⟩
  | some b => rw [Ok_some, Option.map_some, Ok_some]
theorem Ok_ite {c : Prop} [Decidable c] {x y : Option α} : Ok (if c then x else y) Q = if c then Ok x Q else Ok y Q := by split <;> rfl
theorem Ok_if {c : Prop} [Decidable c] {a : α} : Ok (if c then some a else none) Q = (c ∧ Q a) := by
  apply propext
  split
  · rename_i h; rw [Ok_some]; exact ⟨fun q => ⟨h, q⟩, fun q => q.2⟩
  · rename_i h; rw [Ok_none]; exact ⟨fun q => q.elim, fun q => h q.1⟩
theorem Ok.mono {x : Option α} {R : α → Prop} (h : Ok x R) (f : ∀ a, R a → Q a) : Ok x Q := let ⟨a, e, r⟩ := h; ⟨a, e, f a r⟩
theorem Ok.out {x : Option α} (h : Ok x Q) : ∃ a, x = some a ∧ Q a := h
end
/-! ### a def -/
section
variable {P : Prg} {n i : Nat} {f : Fn} {ds : List D} {S : Sto} {Q : D × Sto → Prop}
def FK (Q : D × Sto → Prop) : Fl → Prop
  | .rt d S => Q (d, S)
  | .nx _ S => Q (.non, S)
theorem FK_rt {d : D} : FK Q (.rt d S) = Q (d, S) := rfl
theorem FK_nx {e : Env} : FK Q (.nx e S) = Q (.non, S) := rfl
theorem Ok_call (hf : P.fs.lookup i = some f) (ha : f.ar = ds.length) (h : Ok (evSs (orc P n) f.body (ds.map .fz ++ List.replicate (f.n - ds.length) .un) S) (FK Q)) : Ok (callN P (n + 1) i ds S) Q := by
  obtain ⟨fl, e, q⟩ := h
  unfold callN
  rw [hf]
  simp only [ha, if_true]
  unfold runFn
  show Ok (match evSs (orc P n) f.body _ S with | some (.rt d S') => some (d, S') | some (.nx _ S') => some (.non, S') | none => none) Q
  rw [e]
  cases fl with
  | rt d S' => exact ⟨_, rfl, q⟩
  | nx e S' => exact ⟨_, rfl, q⟩
end
/-! ### statements -/
section
variable {C : Orc} {S : Sto} {env : Env} {K : Fl → Prop}
def SK (C : Orc) (ss : Ss) (K : Fl → Prop) : Fl → Prop
  | .nx env S => Ok (evSs C ss env S) K
  | .rt d S => K (.rt d S)
theorem SK_nx {ss : Ss} : SK C ss K (.nx env S) = Ok (evSs C ss env S) K := rfl
theorem SK_rt {ss : Ss} {d : D} : SK C ss K (.rt d S) = K (.rt d S) := rfl
theorem Ok_nil : Ok (evSs C .nil env S) K = K (.nx env S) := by rw [evSs, Ok_some]
theorem Ok_cons {s : Sx} {ss : Ss} : Ok (evSs C (.cons s ss) env S) K = Ok (evS C s env S) (SK C ss K) := by
  apply propext
  rw [evSs]
  cases h : evS C s env S with
  | none => exact ⟨fun ⟨_, e, _⟩ => (by cases e), fun ⟨_, e, _⟩ => (by cases e)⟩
  | some fl =>
    rw [Ok_some]
    cases fl with
    | nx e S' => exact Iff.rfl
    | rt d S' => exact ⟨fun ⟨_, e, q⟩ => (by cases e; exact q), fun q => ⟨_, rfl, q⟩⟩
/-- a loop, by what holds before each turn -/
theorem Ok_fr {f : D → Env → Sto → Option Fl} : ∀ {ds : List D} (J : List D → Env → Sto → Prop), J ds env S → (∀ d rest env S, J (d :: rest) env S → Ok (f d env S) fun fl => match fl with | .nx env' S' => J rest env' S' | .rt d S' => K (.rt d S')) →
    (∀ env S, J [] env S → K (.nx env S)) → Ok (frGo f ds env S) K
  | ds, J, h0, hs, he => by
    induction ds generalizing env S with
    | nil => exact ⟨_, rfl, he _ _ h0⟩
    | cons d r ih =>
      obtain ⟨fl, e, q⟩ := hs d r env S h0
      rw [frGo, e]
      cases fl with
      | nx e S' => exact ih q
      | rt d S' => exact ⟨_, rfl, q⟩
/-- a comprehension, by what holds before each item -/
theorem Ok_lc {f : D → Sto → Option (Option D × Sto)} {Q : List D × Sto → Prop} : ∀ {ds : List D} (J : List D → List D → Sto → Prop) {acc : List D} {S : Sto}, acc.length + ds.length < sizeLine → J ds acc S →
    (∀ d rest acc S, J (d :: rest) acc S → Ok (f d S) fun p => J rest (match p.1 with | some x => acc ++ [x] | none => acc) p.2) → (∀ acc S, J [] acc S → Q (acc, S)) → Ok (lcGo f ds acc S) Q
  | ds, J, acc, S, hz, h0, hs, he => by
    induction ds generalizing acc S with
    | nil => exact ⟨_, rfl, he _ _ h0⟩
    | cons d r ih =>
      obtain ⟨⟨o, S1⟩, e, q⟩ := hs d r acc S h0
      rw [List.length_cons] at hz
      rw [lcGo, e]
      cases o with
      | none => exact ih _ _ (by omega) q
      | some x =>
        simp only
        rw [if_pos (by omega)]
        exact ih _ _ (by rw [List.length_append, List.length_cons, List.length_nil]; omega) q
end
end Wf
set_option Elab.async false
set_option linter.all false
namespace Wf
open PySem L2
section
variable {S : Sto} {i j k : Int} {x y z : Str} {xs ys : List D} {b c : Bool} {kvs : List (Key × D)} {tvs : List (Str × D)} {d : D} {m : Nat}
theorem tp_n : top S .non = .non := rfl
theorem tp_b : top S (.bl b) = .bl b := rfl
theorem tp_i : top S (.int i) = .int i := rfl
theorem tp_s : top S (.str x) = .str x := rfl
theorem tp_t : top S (.tup xs) = .tup xs := rfl
theorem tp_l : top S (.lst xs) = .lst xs := rfl
theorem tp_d : top S (.dct kvs) = .dct kvs := rfl
theorem tp_k : top S (.kdc tvs) = .kdc tvs := rfl
theorem tp_c {ns : List Int} : top S (.scr ns) = .scr ns := rfl
theorem tp_r0 {R : Sto} : top (.lst xs :: R) (.ref 0) = .lst xs := rfl
theorem tp_r1 {o : Ob} {R : Sto} : top (o :: .lst xs :: R) (.ref 1) = .lst xs := rfl
theorem ix_l : semIx (.lst xs) (.int i) = atI xs i := rfl
theorem ix_t : semIx (.tup xs) (.int i) = atI xs i := rfl
theorem ix_k : semIx (.kdc tvs) (.str x) = tvs.lookup x := rfl
theorem ix_d : semIx (.dct kvs) (.str x) = look kvs (.inr x) := rfl
theorem ix_di : semIx (.dct kvs) (.int i) = look kvs (.inl i) := rfl
variable {α : Type} {a0 a1 a2 a3 a4 a5 a6 a7 : α} {l : List α}
theorem at0 : atI (a0 :: l) 0 = some a0 := by
  unfold atI ixN
  rw [if_pos (by decide), if_pos (by simp only [List.length_cons]; omega)]; rfl
theorem at_lit {n : Nat} (h : n < l.length) : atI l (n : Int) = l[n]? := by
  unfold atI ixN
  rw [if_pos (by omega), if_pos (by omega)]; rfl
theorem at1 : atI (a0 :: a1 :: l) 1 = some a1 := at_lit (l := a0 :: a1 :: l) (n := 1) (by simp)
theorem at2 : atI (a0 :: a1 :: a2 :: l) 2 = some a2 := at_lit (l := a0 :: a1 :: a2 :: l) (n := 2) (by simp)
theorem at3 : atI (a0 :: a1 :: a2 :: a3 :: l) 3 = some a3 := at_lit (l := a0 :: a1 :: a2 :: a3 :: l) (n := 3) (by simp)
theorem at4 : atI (a0 :: a1 :: a2 :: a3 :: a4 :: l) 4 = some a4 := at_lit (l := a0 :: a1 :: a2 :: a3 :: a4 :: l) (n := 4) (by simp)
theorem at5 : atI (a0 :: a1 :: a2 :: a3 :: a4 :: a5 :: l) 5 = some a5 := at_lit (l := a0 :: a1 :: a2 :: a3 :: a4 :: a5 :: l) (n := 5) (by simp)
theorem at6 : atI (a0 :: a1 :: a2 :: a3 :: a4 :: a5 :: a6 :: l) 6 = some a6 := at_lit (l := a0 :: a1 :: a2 :: a3 :: a4 :: a5 :: a6 :: l) (n := 6) (by simp)
theorem at7 : atI (a0 :: a1 :: a2 :: a3 :: a4 :: a5 :: a6 :: a7 :: l) 7 = some a7 := at_lit (l := a0 :: a1 :: a2 :: a3 :: a4 :: a5 :: a6 :: a7 :: l) (n := 7) (by simp)
/-- somewhere in a list -/
theorem Ok_at {Q : α → Prop} (h0 : 0 ≤ i) (h1 : i < l.length) (h : ∀ a, l[i.toNat]? = some a → a ∈ l → Q a) : Ok (atI l i) Q := by
  unfold atI ixN
  rw [if_pos h0, if_pos h1]
  have lt : i.toNat < l.length := by omega
  exact ⟨l[i.toNat], List.getElem?_eq_getElem lt, h _ (List.getElem?_eq_getElem lt) (List.getElem_mem lt)⟩
theorem at_neg {n : Nat} (h : n < l.length) : atI l (-((n : Int) + 1)) = l[l.length - 1 - n]? := by
  unfold atI ixN
  rw [if_neg (by omega), if_pos (by omega)]
  show l[(-((n : Int) + 1) + (l.length : Int)).toNat]? = _
  congr 1
  omega
theorem atm1 : atI (a0 :: l) (-1) = (a0 :: l)[(a0 :: l).length - 1]? := at_neg (l := a0 :: l) (n := 0) (by simp)
theorem atm2 : atI (a0 :: a1 :: l) (-2) = (a0 :: a1 :: l)[(a0 :: a1 :: l).length - 2]? := at_neg (l := a0 :: a1 :: l) (n := 1) (by simp)
theorem atm3 : atI (a0 :: a1 :: a2 :: l) (-3) = (a0 :: a1 :: a2 :: l)[(a0 :: a1 :: a2 :: l).length - 3]? := at_neg (l := a0 :: a1 :: a2 :: l) (n := 2) (by simp)
theorem b_add : semBin .Add (.int i) (.int j) = some (.int (i + j)) := rfl
theorem b_sub : semBin .Sub (.int i) (.int j) = some (.int (i - j)) := rfl
theorem b_mul : semBin .Mult (.int i) (.int j) = if (-(2 ^ 64) < i ∧ i < 2 ^ 64) ∨ (-(2 ^ 64) < j ∧ j < 2 ^ 64) then some (.int (i * j)) else none := rfl
theorem b_div : semBin .FloorDiv (.int i) (.int j) = if 0 < j ∧ j < 1073741824 then some (.int (i / j)) else none := rfl
theorem b_mod : semBin .Mod (.int i) (.int j) = if 0 < j then some (.int (i % j)) else none := rfl
theorem b_pow : semBin .Pow (.int i) (.int j) = if 0 ≤ j ∧ j ≤ 1000000 ∧ i.natAbs < 2 ^ 64 then some (.int (i ^ j.toNat)) else none := rfl
theorem b_addT : semBin .Add (.tup xs) (.tup ys) = if xs.length + ys.length ≤ sizeLine then some (.tup (xs ++ ys)) else none := rfl
theorem b_addL : semBin .Add (.lst xs) (.lst ys) = if xs.length + ys.length ≤ sizeLine then some (.lst (xs ++ ys)) else none := rfl
theorem b_mulL : semBin .Mult (.lst xs) (.int k) = if 0 ≤ k ∧ k < 2 ^ 63 ∧ xs.length * k.toNat ≤ sizeLine then some (.lst (List.replicate k.toNat xs).flatten) else none := rfl
theorem c_lt : semCmp .Lt (.int i) (.int j) = some (decide (i < j)) := rfl
theorem c_le : semCmp .LtE (.int i) (.int j) = some (decide (i ≤ j)) := rfl
theorem c_gt : semCmp .Gt (.int i) (.int j) = some (decide (j < i)) := rfl
theorem c_ge : semCmp .GtE (.int i) (.int j) = some (decide (j ≤ i)) := rfl
theorem c_eq : semCmp .Eq (.int i) (.int j) = some (decide (i = j)) := rfl
theorem c_ne : semCmp .NotEq (.int i) (.int j) = some (!decide (i = j)) := rfl
theorem c_eqs : semCmp .Eq (.str x) (.str y) = some (decide (x = y)) := rfl
theorem c_nes : semCmp .NotEq (.str x) (.str y) = some (!decide (x = y)) := rfl
theorem c_is : semCmp .Is d .non = some (isNon d) := by cases d <;> rfl
theorem c_isnt : semCmp .IsNot d .non = some (!isNon d) := by cases d <;> rfl
theorem n_n : isNon .non = true := rfl
theorem n_t : isNon (.tup xs) = false := rfl
theorem n_i : isNon (.int i) = false := rfl
theorem n_l : isNon (.lst xs) = false := rfl
theorem bl_b : bl? (.bl b) = some b := rfl
theorem int_i : int? (.int i) = some i := rfl
theorem f_len : semBi .len [.lst xs] = some (.int xs.length) := rfl
theorem f_lenT : semBi .len [.tup xs] = some (.int xs.length) := rfl
theorem f_min : semBi .min [.int i, .int j] = some (.int (if j < i then j else i)) := rfl
theorem f_max : semBi .max [.int i, .int j] = some (.int (if j > i then j else i)) := rfl
theorem f_abs : semBi .abs [.int i] = some (.int (if i < 0 then -i else i)) := rfl
theorem f_intB : semBi .int [.bl b] = some (.int (if b then 1 else 0)) := rfl
theorem f_int : semBi .int [.int i] = some (.int i) := rfl
theorem f_tup : semBi .tuple [.lst xs] = some (.tup xs) := rfl
theorem f_tupT : semBi .tuple [.tup xs] = some (.tup xs) := rfl
theorem f_lst : semBi .list [.lst xs] = some (.lst xs) := rfl
theorem f_lstT : semBi .list [.tup xs] = some (.lst xs) := rfl
theorem f_sum : semBi .sum [.lst xs] = (intsOf xs).map fun ns => .int ns.sum := rfl
theorem r_l0 {R : Sto} : refL (.ref 0) (.lst xs :: R) = some (0, xs) := rfl
theorem r_l1 {o : Ob} {R : Sto} : refL (.ref 1) (o :: .lst xs :: R) = some (1, xs) := rfl
theorem pt0 {p v : D} {r : List D} : putAt (.lst (p :: r)) (.int 0) v = some (.lst (v :: r)) := by
  unfold putAt ixN
  simp only [List.length_cons]
  rw [if_pos (by decide), if_pos (by omega)]; rfl
theorem pt1 {p q v : D} {r : List D} : putAt (.lst (p :: q :: r)) (.int 1) v = some (.lst (p :: v :: r)) := by
  unfold putAt ixN
  simp only [List.length_cons]
  rw [if_pos (by decide), if_pos (by omega)]; rfl
theorem pt2 {p q u v : D} {r : List D} : putAt (.lst (p :: q :: u :: r)) (.int 2) v = some (.lst (p :: q :: v :: r)) := by
  unfold putAt ixN
  simp only [List.length_cons]
  rw [if_pos (by decide), if_pos (by omega)]; rfl
theorem lastM {r : List Int} : (List.map D.int (r ++ [i]))[(List.map D.int (r ++ [i])).length - 1]? = some (.int i) := by
  rw [List.map_append, List.length_append]
  simp
theorem lastM' {r : List Int} : (List.map D.int (r ++ [i]))[(r ++ [i]).length - 1]? = some (.int i) := by
  have := lastM (r := r) (i := i)
  rw [List.length_map] at this
  exact this
theorem dropM {r : List Int} : (List.map D.int (r ++ [i])).dropLast = List.map D.int r := by
  rw [List.map_append]; simp
theorem apM {r : List Int} : List.map D.int r ++ [D.int i] = List.map D.int (r ++ [i]) := by simp
theorem na10 : Int.natAbs 10 = 10 := rfl
theorem empM {r : List Int} : (r ++ [i]).isEmpty = false := by cases r <;> rfl
theorem ints_map : ∀ ns : List Int, intsOf (ns.map D.int) = some ns
  | [] => rfl
  | n :: ns => by rw [List.map_cons, intsOf, ints_map ns]; rfl
theorem pd_ints : ∀ ns : List Int, pdAll (ns.map D.int) = some (ns.map PyData.int)
  | [] => rfl
  | n :: ns => by rw [List.map_cons, pdAll, D.pd, pd_ints ns]; rfl
theorem lay_ints : ∀ ns : List Int, PyData.canLayAll0 (ns.map PyData.int) = true
  | [] => rfl
  | n :: ns => by rw [List.map_cons, PyData.canLayAll0, lay_ints ns]; rfl
theorem dep_ints : ∀ ns : List Int, PyData.depthAll (ns.map PyData.int) ≤ 1
  | [] => by decide
  | n :: ns => by rw [List.map_cons, PyData.depthAll]; have := dep_ints ns; simp only [PyData.depth]; omega
theorem c_ne00 : semCmp .NotEq (.lst []) (.lst []) = some false := by decide
theorem sz0 : (0 ≤ sizeLine) = True := by simp
theorem c_neNil (ns : List Int) : semCmp .NotEq (.lst (ns.map D.int)) (.lst []) = some (!ns.isEmpty) := by
  show (semEq _ _).map (!·) = _
  unfold semEq
  rw [D.pd, pd_ints, D.pd, pdAll]
  simp only [Option.map_some]
  have h1 : SeqAt.shaped (.list (ns.map PyData.int)) = true := by
    unfold SeqAt.shaped
    have := dep_ints ns
    rw [PyData.canLay0, lay_ints, PyData.depth]
    simp only [Bool.true_and, decide_eq_true_eq]
    omega
  rw [h1]
  cases ns with
  | nil => rfl
  | cons n r => rfl
end
end Wf
set_option Elab.async false
set_option linter.all false
namespace Wf
/-- the program has these functions -/
class HasF (P : Prg) (l : List (Nat × Fn)) : Prop where
  h : ∀ q ∈ l, P.fs.lookup q.1 = some q.2
theorem lk_mem {α : Type} : ∀ {l : List (Nat × α)} {q : Nat × α}, (l.map (·.1)).Nodup → q ∈ l → l.lookup q.1 = some q.2
  | [], q, _, h => by cases h
  | (j, y) :: r, q, nd, h => by
    rw [List.map_cons, List.nodup_cons] at nd
    rw [List.lookup_cons]
    rcases List.mem_cons.mp h with e | m
    · rw [e]; simp
    · have : (q.1 == j) = false := by
        refine beq_eq_false_iff_ne.mpr fun e => nd.1 ?_
        rw [← e]
        exact List.mem_map.mpr ⟨q, m, rfl⟩
      rw [this]
      exact lk_mem nd.2 m
end Wf
set_option Elab.async false
set_option linter.all false
set_option maxRecDepth 100000
set_option maxHeartbeats 4000000
namespace Wf
open PySem L2
/-- is_whole, slots: 0 thing -/
def b0 : Ss := (.cons (.ret (.and_ (.isi (.e (.v 0)) .int) (.nt (.isi (.e (.v 0)) .bool))))
    .nil)
def f0 : Fn := ⟨1, 1, b0⟩
/-- is_within, slots: 0 thing 1 least 2 most -/
def b1 : Ss := (.cons (.ret (.and_ (.call 0 (.cons (.v 0) .nil) .nil [.vi 0]) (.chn .LtE .LtE (.v 1) (.v 0) (.v 2))))
    .nil)
def f1 : Fn := ⟨3, 3, b1⟩
/-- are_wholes, slots: 0 thing 1 many 2 one -/
def b2 : Ss := (.cons (.ret (.and_ (.isi (.e (.v 0)) .tuple) (.and_ (.cmp .Eq (.e (.bi .len (.cons (.e (.v 0)) .nil))) (.e (.v 1))) (.bi .all (.cons (.e (.lc [2] (.nm 2) (.seq (.v 0)) .none (.call 0 (.cons (.v 2) .nil) .nil [.vi 0]))) .nil)))))
    .nil)
def f2 : Fn := ⟨2, 3, b2⟩
/-- is_box, slots: 0 land 1 thing 2 left 3 low 4 right 5 top -/
def b3 : Ss := (.cons (.iff (.nt (.call 2 (.cons (.v 1) (.cons (.k (D.int 4)) .nil)) .nil [.vi 0, .vi 1])) (.cons (.ret (.k (D.bl false)))
    .nil) .nil)
    (.cons (.asg (.tp (.cons (.nm 2) (.cons (.nm 3) (.cons (.nm 4) (.cons (.nm 5) .nil))))) (.v 1))
    (.cons (.ret (.and_ (.ch3 .LtE .LtE .Lt (.k (D.int 0)) (.v 2) (.v 4) (.att 0 (.v 0) "wide")) (.ch3 .LtE .LtE .Lt (.k (D.int 0)) (.v 3) (.v 5) (.att 0 (.v 0) "high"))))
    .nil)))
def f3 : Fn := ⟨2, 6, b3⟩
/-- is_room, slots: 0 land 1 thing 2 box 3 first 4 last -/
def b4 : Ss := (.cons (.iff (.or_ (.nt (.call 2 (.cons (.v 1) (.cons (.k (D.int 6)) .nil)) .nil [.vi 0, .vi 1])) (.nt (.call 3 (.cons (.v 0) (.cons (.cut (.e (.v 1)) .none (.some (.k (D.int 4)))) .nil)) .nil [.vi 0, .vi 1]))) (.cons (.ret (.k (D.bl false)))
    .nil) .nil)
    (.cons (.asg (.st (.cons (.nm 2) (.cons (.nm 3) (.cons (.nm 4) .nil))) 0) (.v 1))
    (.cons (.ret (.ch3 .LtE .LtE .LtE (.k (D.int 0)) (.v 3) (.v 4) (.att 0 (.v 0) "day")))
    .nil)))
def f4 : Fn := ⟨2, 5, b4⟩
/-- are_rooms, slots: 0 land 1 thing 2 one -/
def b5 : Ss := (.cons (.ret (.and_ (.isi (.e (.v 1)) .tuple) (.and_ (.cmp .LtE (.e (.bi .len (.cons (.e (.v 1)) .nil))) (.e (.gl (D.int 8)))) (.bi .all (.cons (.e (.lc [2] (.nm 2) (.seq (.v 1)) .none (.call 4 (.cons (.v 0) (.cons (.v 2) .nil)) .nil [.vi 0, .vi 1]))) .nil)))))
    .nil)
def f5 : Fn := ⟨2, 3, b5⟩
/-- are_heights, slots: 0 land 1 thing 2 line 3 height -/
def b6 : Ss := (.cons (.iff (.cmp .Is (.e (.v 1)) (.e (.k D.non))) (.cons (.ret (.k (D.bl true)))
    .nil) .nil)
    (.cons (.iff (.or_ (.nt (.isi (.e (.v 1)) .tuple)) (.cmp .NotEq (.e (.bi .len (.cons (.e (.v 1)) .nil))) (.e (.att 0 (.v 0) "high")))) (.cons (.ret (.k (D.bl false)))
    .nil) .nil)
    (.cons (.iff (.nt (.bi .all (.cons (.e (.lc [2] (.nm 2) (.seq (.v 1)) .none (.call 2 (.cons (.v 2) (.cons (.att 0 (.v 0) "wide") .nil)) .nil [.vi 0, .vi 1]))) .nil))) (.cons (.ret (.k (D.bl false)))
    .nil) .nil)
    (.cons (.ret (.bi .all (.cons (.e (.lc2 [2, 3] [3] (.nm 2) (.seq (.v 1)) .none (.nm 3) (.seq (.v 2)) .none (.call 1 (.cons (.v 3) (.cons (.k (D.int 0)) (.cons (.gl (D.int 9)) .nil))) .nil [.vi 0, .vi 1, .vi 2]))) .nil)))
    .nil))))
def f6 : Fn := ⟨2, 4, b6⟩
/-- do_share, slots: 0 one 1 other -/
def b7 : Ss := (.cons (.ret (.and_ (.cmp .LtE (.e (.sub (.e (.v 0)) (.k (D.int 0)))) (.e (.sub (.e (.v 1)) (.k (D.int 2))))) (.and_ (.cmp .LtE (.e (.sub (.e (.v 1)) (.k (D.int 0)))) (.e (.sub (.e (.v 0)) (.k (D.int 2))))) (.and_ (.cmp .LtE (.e (.sub (.e (.v 0)) (.k (D.int 1)))) (.e (.sub (.e (.v 1)) (.k (D.int 3))))) (.cmp .LtE (.e (.sub (.e (.v 1)) (.k (D.int 1)))) (.e (.sub (.e (.v 0)) (.k (D.int 3)))))))))
    .nil)
def f7 : Fn := ⟨2, 2, b7⟩
/-- is_pad, slots: 0 land 1 thing -/
def b8 : Ss := (.cons (.ret (.and_ (.call 2 (.cons (.v 1) (.cons (.k (D.int 5)) .nil)) .nil [.vi 0, .vi 1]) (.and_ (.call 3 (.cons (.v 0) (.cons (.cut (.e (.v 1)) .none (.some (.k (D.int 4)))) .nil)) .nil [.vi 0, .vi 1]) (.chn .LtE .LtE (.k (D.int 1)) (.sub (.e (.v 1)) (.k (D.int 4))) (.gl (D.int 4))))))
    .nil)
def f8 : Fn := ⟨2, 2, b8⟩
/-- are_pads, slots: 0 land 1 thing 2 at 3 one 4 other -/
def b9 : Ss := (.cons (.iff (.or_ (.nt (.isi (.e (.v 1)) .tuple)) (.or_ (.cmp .Gt (.e (.bi .len (.cons (.e (.v 1)) .nil))) (.e (.gl (D.int 4)))) (.nt (.bi .all (.cons (.e (.lc [3] (.nm 3) (.seq (.v 1)) .none (.call 8 (.cons (.v 0) (.cons (.v 3) .nil)) .nil [.vi 0, .vi 1]))) .nil))))) (.cons (.ret (.k (D.bl false)))
    .nil) .nil)
    (.cons (.ret (.nt (.bi .any (.cons (.e (.lc2 [2, 3, 4] [4] (.tp (.cons (.nm 2) (.cons (.nm 3) .nil))) (.enm (.v 1)) .none (.nm 4) (.seq (.cut (.e (.v 1)) .none (.some (.v 2)))) .none (.call 7 (.cons (.v 3) (.cons (.v 4) .nil)) .nil [.vi 0, .vi 1]))) .nil))))
    .nil))
def f9 : Fn := ⟨2, 5, b9⟩
/-- need_field, slots: 0 good 1 name -/
def b10 : Ss := (.cons (.iff (.nt (.v 0)) (.cons .bad
    .nil) .nil)
    .nil)
def f10 : Fn := ⟨2, 2, b10⟩
/-- Land_init, slots: 0 self 1 wide 2 high 3 day 4 heights 5 barred 6 people 7 pads -/
def b11 : Ss := (.cons (.ex (.call 10 (.cons (.call 1 (.cons (.v 1) (.cons (.k (D.int 1)) (.cons (.gl (D.int 12)) .nil))) .nil [.vi 0, .vi 1, .vi 2]) (.cons (.k (D.str "wide")) .nil)) .nil [.vi 0, .vi 1]))
    (.cons (.ex (.call 10 (.cons (.call 1 (.cons (.v 2) (.cons (.k (D.int 1)) (.cons (.gl (D.int 12)) .nil))) .nil [.vi 0, .vi 1, .vi 2]) (.cons (.k (D.str "high")) .nil)) .nil [.vi 0, .vi 1]))
    (.cons (.ex (.call 10 (.cons (.call 1 (.cons (.v 3) (.cons (.k (D.int 1)) (.cons (.gl (D.int 24)) .nil))) .nil [.vi 0, .vi 1, .vi 2]) (.cons (.k (D.str "day")) .nil)) .nil [.vi 0, .vi 1]))
    (.cons (.sat 0 (.v 0) "wide" (.v 1))
    (.cons (.sat 0 (.v 0) "high" (.v 2))
    (.cons (.sat 0 (.v 0) "day" (.v 3))
    (.cons (.ex (.call 10 (.cons (.call 6 (.cons (.v 0) (.cons (.v 4) .nil)) .nil [.vi 0, .vi 1]) (.cons (.k (D.str "heights")) .nil)) .nil [.vi 0, .vi 1]))
    (.cons (.ex (.call 10 (.cons (.call 5 (.cons (.v 0) (.cons (.v 5) .nil)) .nil [.vi 0, .vi 1]) (.cons (.k (D.str "barred")) .nil)) .nil [.vi 0, .vi 1]))
    (.cons (.ex (.call 10 (.cons (.call 5 (.cons (.v 0) (.cons (.v 6) .nil)) .nil [.vi 0, .vi 1]) (.cons (.k (D.str "people")) .nil)) .nil [.vi 0, .vi 1]))
    (.cons (.ex (.call 10 (.cons (.call 9 (.cons (.v 0) (.cons (.v 7) .nil)) .nil [.vi 0, .vi 1]) (.cons (.k (D.str "pads")) .nil)) .nil [.vi 0, .vi 1]))
    (.cons (.sat 0 (.v 0) "heights" (.v 4))
    (.cons (.sat 0 (.v 0) "barred" (.v 5))
    (.cons (.sat 0 (.v 0) "people" (.v 6))
    (.cons (.sat 0 (.v 0) "pads" (.v 7))
    .nil))))))))))))))
def f11 : Fn := ⟨8, 8, b11⟩
/-- room_grown, slots: 0 land 1 room 2 by 3 left 4 low 5 right 6 top 7 first 8 last 9 most -/
def b12 : Ss := (.cons (.asg (.tp (.cons (.nm 3) (.cons (.nm 4) (.cons (.nm 5) (.cons (.nm 6) (.cons (.nm 7) (.cons (.nm 8) .nil))))))) (.v 1))
    (.cons (.asg (.nm 9) (.tup (.cons (.bi .min (.cons (.e (.bin .Sub (.att 0 (.v 0) "wide") (.k (D.int 1)))) (.cons (.e (.bin .Add (.v 5) (.v 2))) .nil))) (.cons (.bi .min (.cons (.e (.bin .Sub (.att 0 (.v 0) "high") (.k (D.int 1)))) (.cons (.e (.bin .Add (.v 6) (.v 2))) .nil))) .nil))))
    (.cons (.ret (.bin .Add (.bin .Add (.tup (.cons (.bi .max (.cons (.e (.k (D.int 0))) (.cons (.e (.bin .Sub (.v 3) (.v 2))) .nil))) (.cons (.bi .max (.cons (.e (.k (D.int 0))) (.cons (.e (.bin .Sub (.v 4) (.v 2))) .nil))) .nil))) (.v 9)) (.tup (.cons (.v 7) (.cons (.v 8) .nil)))))
    .nil)))
def f12 : Fn := ⟨3, 10, b12⟩
/-- grown, slots: 0 land 1 rooms 2 by 3 room -/
def b13 : Ss := (.cons (.ret (.bi .tuple (.cons (.e (.lc [3] (.nm 3) (.seq (.v 1)) .none (.call 12 (.cons (.v 0) (.cons (.v 3) (.cons (.v 2) .nil))) .nil [.vi 0, .vi 1, .vi 2]))) .nil)))
    .nil)
def f13 : Fn := ⟨3, 4, b13⟩
/-- do_clash, slots: 0 one 1 other -/
def b14 : Ss := (.cons (.ret (.and_ (.call 7 (.cons (.v 0) (.cons (.v 1) .nil)) .nil [.vi 0, .vi 1]) (.and_ (.cmp .LtE (.e (.sub (.e (.v 0)) (.k (D.int 4)))) (.e (.sub (.e (.v 1)) (.k (D.int 5))))) (.cmp .LtE (.e (.sub (.e (.v 1)) (.k (D.int 4)))) (.e (.sub (.e (.v 0)) (.k (D.int 5))))))))
    .nil)
def f14 : Fn := ⟨2, 2, b14⟩
/-- ldeck, slots: 0 _law_script 1 _law_cells 2 _law_cell -/
def b15 : Ss := (.cons (.asg (.nm 1) (.bi .list (.cons (.e (.cut (.e (.v 0)) .none (.some (.k (D.int 63))))) .nil)))
    (.cons (.ret (.box (.lst (.cons (.box (.rev (.e (.v 1)))) (.cons (.bin .Add (.bi .sum (.cons (.e (.lc [2] (.nm 2) (.seq (.v 1)) .none (.bin .Mod (.v 2) (.k (D.int 1000003))))) .nil)) (.bin .Mult (.k (D.int 7919)) (.bi .len (.cons (.e (.v 1)) .nil)))) (.cons (.k (D.int 0)) .nil))))))
    .nil))
def f15 : Fn := ⟨1, 3, b15⟩
/-- ldraw, slots: 0 _law_deck_here 1 _law_many 2 _law_cell 3 _law_mixed -/
def b16 : Ss := (.cons (.put (.v 0) (.k (D.int 2)) (.bin .Add (.sub (.e (.v 0)) (.k (D.int 2))) (.k (D.int 1))))
    (.cons (.asg (.nm 2) (.sub (.e (.v 0)) (.k (D.int 1))))
    (.cons (.iff (.cmp .NotEq (.e (.sub (.e (.v 0)) (.k (D.int 0)))) (.e (.lst .nil))) (.cons (.asg (.nm 2) (.pop (.sub (.e (.v 0)) (.k (D.int 0)))))
    (.cons (.iff (.cmp .GtE (.e (.v 2)) (.e (.bin .Pow (.k (D.int 10)) (.k (D.int 18))))) (.cons (.ex (.app (.sub (.e (.v 0)) (.k (D.int 0))) (.bin .FloorDiv (.v 2) (.v 1))))
    (.cons (.ret (.bin .Mod (.v 2) (.v 1)))
    .nil)) .nil)
    .nil)) .nil)
    (.cons (.asg (.nm 3) (.bin .Mod (.bin .Mult (.bin .Add (.bin .Add (.bin .Mod (.v 2) (.k (D.int 2147483629))) (.bin .Mult (.k (D.int 65537)) (.sub (.e (.v 0)) (.k (D.int 2))))) (.k (D.int 19))) (.k (D.int 48271))) (.k (D.int 2147483647))))
    (.cons (.asg (.nm 3) (.bin .Mod (.bin .Add (.bin .Add (.bin .Mult (.v 3) (.v 3)) (.bin .Mult (.k (D.int 69621)) (.sub (.e (.v 0)) (.k (D.int 2))))) (.k (D.int 23))) (.k (D.int 2147483587))))
    (.cons (.ret (.bin .Mod (.bin .FloorDiv (.bin .Mod (.bin .Add (.bin .Mult (.v 3) (.v 3)) (.bin .Mult (.k (D.int 39373)) (.v 3))) (.k (D.int 2147483563))) (.k (D.int 64))) (.v 1)))
    .nil))))))
def f16 : Fn := ⟨2, 4, b16⟩
/-- lpick, slots: 0 _law_deck_here 1 _law_some -/
def b17 : Ss := (.cons (.ret (.sub (.e (.v 1)) (.call 16 (.cons (.v 0) (.cons (.bi .len (.cons (.e (.v 1)) .nil)) .nil)) .nil [.vi 0, .vi 1])))
    .nil)
def f17 : Fn := ⟨2, 2, b17⟩
/-- lbounds, slots: 0 _law_deck_here 1 _law_least 2 _law_most -/
def b18 : Ss := (.cons (.ret (.sub (.e (.lst (.cons (.v 1) (.cons (.v 2) (.cons (.bin .Add (.v 1) (.call 16 (.cons (.v 0) (.cons (.bin .Add (.bin .Sub (.v 2) (.v 1)) (.k (D.int 1))) .nil)) .nil [.vi 0, .vi 1])) .nil))))) (.call 16 (.cons (.v 0) (.cons (.k (D.int 3)) .nil)) .nil [.vi 0, .vi 1])))
    .nil)
def f18 : Fn := ⟨3, 3, b18⟩
/-- lfields, slots: 0 _law_deck_here 1 _law_some -/
def b19 : Ss := (.cons (.asg (.nm 1) (.lst (.cons (.k (D.int 1)) (.cons (.k (D.int 2)) (.cons (.k (D.int 9)) (.cons (.k (D.int 10)) (.cons (.k (D.int 12)) (.cons (.k (D.int 5)) .nil))))))))
    (.cons (.ret (.lst (.cons (.call 17 (.cons (.v 0) (.cons (.v 1) .nil)) .nil [.vi 0, .vi 1]) (.cons (.call 17 (.cons (.v 0) (.cons (.v 1) .nil)) .nil [.vi 0, .vi 1]) (.cons (.call 17 (.cons (.v 0) (.cons (.lst (.cons (.k (D.int 1)) (.cons (.k (D.int 9)) (.cons (.k (D.int 10)) (.cons (.k (D.int 24)) .nil))))) .nil)) .nil [.vi 0, .vi 1]) .nil)))))
    .nil))
def f19 : Fn := ⟨1, 2, b19⟩
/-- lspace, slots: 0 _law_deck_here 1 _law_sizes 2 _law_a 3 _law_b 4 _law_c 5 _law_side 6 _law_k -/
def b20 : Ss := (.cons (.asg (.tp (.cons (.nm 2) (.cons (.nm 3) (.cons (.nm 4) .nil)))) (.lc [6] (.nm 6) (.rng1 (.k (D.int 3))) .none (.call 18 (.cons (.v 0) (.cons (.k (D.int 0)) (.cons (.bin .Sub (.sub (.e (.v 1)) (.v 6)) (.bi .int (.cons (.e (.cmp .Lt (.e (.v 6)) (.e (.k (D.int 2))))) .nil))) .nil))) .nil [.vi 0, .vi 1, .vi 2])))
    (.cons (.asg (.nm 5) (.tup (.cons (.call 18 (.cons (.v 0) (.cons (.v 2) (.cons (.bin .Sub (.sub (.e (.v 1)) (.k (D.int 0))) (.k (D.int 1))) .nil))) .nil [.vi 0, .vi 1, .vi 2]) (.cons (.call 18 (.cons (.v 0) (.cons (.v 3) (.cons (.bin .Sub (.sub (.e (.v 1)) (.k (D.int 1))) (.k (D.int 1))) .nil))) .nil [.vi 0, .vi 1, .vi 2]) .nil))))
    (.cons (.ret (.bin .Add (.bin .Add (.tup (.cons (.v 2) (.cons (.v 3) .nil))) (.v 5)) (.tup (.cons (.v 4) (.cons (.call 18 (.cons (.v 0) (.cons (.v 4) (.cons (.sub (.e (.v 1)) (.k (D.int 2))) .nil))) .nil [.vi 0, .vi 1, .vi 2]) .nil)))))
    .nil)))
def f20 : Fn := ⟨2, 7, b20⟩
/-- lbeside, slots: 0 _law_deck_here 1 _law_sizes 2 _law_it 3 _law_found 4 _law_most 5 _law_k 6 _law_a 7 _law_b 8 _law_c 9 _law_d 10 _law_e 11 _law_f 12 _law_way 13 _law_end 14 _law_far -/
def b21 : Ss := (.cons (.par (.cons true 3 (.lst .nil) (.cons false 4 (.bin .Add (.bin .Mult (.lst (.cons (.bin .Sub (.sub (.e (.v 1)) (.k (D.int 0))) (.k (D.int 1))) (.cons (.bin .Sub (.sub (.e (.v 1)) (.k (D.int 1))) (.k (D.int 1))) .nil))) (.k (D.int 2))) (.bin .Mult (.lst (.cons (.sub (.e (.v 1)) (.k (D.int 2))) .nil)) (.k (D.int 2)))) .nil)))
    (.cons (.fr (.nm 5) (.rng1 (.k (D.int 6))) (.cons (.asg (.tp (.cons (.nm 12) (.cons (.nm 13) .nil))) (.tup (.cons (.call 16 (.cons (.v 0) (.cons (.k (D.int 6)) .nil)) .nil [.vi 0, .vi 1]) (.cons (.sub (.e (.v 2)) (.sub (.e (.lst (.cons (.k (D.int 2)) (.cons (.k (D.int 3)) (.cons (.k (D.int 0)) (.cons (.k (D.int 1)) (.cons (.k (D.int 5)) (.cons (.k (D.int 4)) .nil)))))))) (.v 5))) .nil))))
    (.cons (.asg (.nm 14) (.sub (.e (.lst (.cons (.sub (.e (.v 2)) (.v 5)) (.cons (.bin .Add (.sub (.e (.v 2)) (.v 5)) (.k (D.int 1))) (.cons (.bin .Sub (.sub (.e (.v 2)) (.v 5)) (.k (D.int 1))) (.cons (.bin .Add (.sub (.e (.v 2)) (.v 5)) (.k (D.int 2))) (.cons (.bin .Sub (.sub (.e (.v 2)) (.v 5)) (.k (D.int 2))) (.cons (.bin .Add (.v 13) (.k (D.int 1))) .nil)))))))) (.v 12)))
    (.cons (.apS 3 (.bi .max (.cons (.e (.k (D.int 0))) (.cons (.e (.bi .min (.cons (.e (.v 14)) (.cons (.e (.sub (.e (.v 4)) (.v 5))) .nil)))) .nil))))
    .nil))))
    (.cons (.frz 3)
    (.cons (.asg (.tp (.cons (.nm 6) (.cons (.nm 7) (.cons (.nm 8) (.cons (.nm 9) (.cons (.nm 10) (.cons (.nm 11) .nil))))))) (.v 3))
    (.cons (.ret (.tup (.cons (.bi .min (.cons (.e (.v 6)) (.cons (.e (.v 8)) .nil))) (.cons (.bi .min (.cons (.e (.v 7)) (.cons (.e (.v 9)) .nil))) (.cons (.bi .max (.cons (.e (.v 6)) (.cons (.e (.v 8)) .nil))) (.cons (.bi .max (.cons (.e (.v 7)) (.cons (.e (.v 9)) .nil))) (.cons (.bi .min (.cons (.e (.v 10)) (.cons (.e (.v 11)) .nil))) (.cons (.bi .max (.cons (.e (.v 10)) (.cons (.e (.v 11)) .nil))) .nil))))))))
    .nil)))))
def f21 : Fn := ⟨3, 15, b21⟩
/-- lmeet, slots: 0 _law_it 1 _law_far 2 _law_low 3 _law_high 4 _law_k -/
def b22 : Ss := (.cons (.fr (.tp (.cons (.nm 2) (.cons (.nm 3) .nil))) (.seq (.tup (.cons (.tup (.cons (.k (D.int 0)) (.cons (.k (D.int 2)) .nil))) (.cons (.tup (.cons (.k (D.int 1)) (.cons (.k (D.int 3)) .nil))) (.cons (.tup (.cons (.k (D.int 4)) (.cons (.k (D.int 5)) .nil))) .nil))))) (.cons (.iff (.cmp .Eq (.e (.lc [4] (.nm 4) (.rng2 (.sub (.e (.v 0)) (.v 2)) (.bin .Add (.sub (.e (.v 0)) (.v 3)) (.k (D.int 1)))) (.some (.chn .LtE .LtE (.sub (.e (.v 1)) (.v 2)) (.v 4) (.sub (.e (.v 1)) (.v 3)))) (.v 4))) (.e (.lst .nil))) (.cons (.ret (.k (D.bl false)))
    .nil) .nil)
    .nil))
    (.cons (.ret (.k (D.bl true)))
    .nil))
def f22 : Fn := ⟨2, 5, b22⟩
/-- loff, slots: 0 _law_it 1 _law_k 2 _law_far -/
def b23 : Ss := (.cons (.ret (.bi .max (.cons (.e (.bin .Sub (.sub (.e (.v 0)) (.v 1)) (.v 2))) (.cons (.e (.k (D.int 0))) (.cons (.e (.bin .Sub (.v 2) (.sub (.e (.v 0)) (.bin .Add (.v 1) (.k (D.int 2)))))) .nil)))))
    .nil)
def f23 : Fn := ⟨3, 3, b23⟩
/-- lwider, slots: 0 _law_sizes 1 _law_it 2 _law_many 3 _law_across 4 _law_upward 5 _law_ax 6 _law_ay -/
def b24 : Ss := (.cons (.asg (.nm 3) (.lc [5] (.nm 5) (.rng1 (.sub (.e (.v 0)) (.k (D.int 0)))) (.some (.cmp .LtE (.e (.call 23 (.cons (.v 1) (.cons (.k (D.int 0)) (.cons (.v 5) .nil))) .nil [.vi 0, .vi 1, .vi 2])) (.e (.v 2)))) (.v 5)))
    (.cons (.asg (.nm 4) (.lc [6] (.nm 6) (.rng1 (.sub (.e (.v 0)) (.k (D.int 1)))) (.some (.cmp .LtE (.e (.call 23 (.cons (.v 1) (.cons (.k (D.int 1)) (.cons (.v 6) .nil))) .nil [.vi 0, .vi 1, .vi 2])) (.e (.v 2)))) (.v 6)))
    (.cons (.ret (.bin .Add (.tup (.cons (.sub (.e (.v 3)) (.k (D.int 0))) (.cons (.sub (.e (.v 4)) (.k (D.int 0))) (.cons (.sub (.e (.v 3)) (.neg (.k (D.int 1)))) (.cons (.sub (.e (.v 4)) (.neg (.k (D.int 1)))) .nil))))) (.cut (.e (.v 1)) (.some (.k (D.int 4))) .none)))
    .nil)))
def f24 : Fn := ⟨3, 7, b24⟩
/-- lgap, slots: 0 _law_it 1 _law_far 2 _law_k -/
def b25 : Ss := (.cons (.ret (.bi .max (.cons (.e (.bin .Sub (.sub (.e (.v 0)) (.v 2)) (.sub (.e (.v 1)) (.bin .Add (.v 2) (.k (D.int 2)))))) (.cons (.e (.bin .Sub (.sub (.e (.v 1)) (.v 2)) (.sub (.e (.v 0)) (.bin .Add (.v 2) (.k (D.int 2)))))) (.cons (.e (.k (D.int 0))) .nil)))))
    .nil)
def f25 : Fn := ⟨3, 3, b25⟩
/-- ltwo_right, slots: 0 _law_made 1 _law_it 2 _law_far 3 _law_many 4 _law_due 5 _law_kept 6 _law_here 7 _law_near -/
def b26 : Ss := (.cons (.asg (.tp (.cons (.nm 4) (.cons (.nm 5) .nil))) (.tup (.cons (.call 22 (.cons (.v 1) (.cons (.v 2) .nil)) .nil [.vi 0, .vi 1]) (.cons (.bi .repr (.cons (.e (.tup (.cons (.v 1) (.cons (.v 2) .nil)))) .nil)) .nil))))
    (.cons (.asg (.nm 6) (.lst (.cons (.call 14 (.cons (.v 1) (.cons (.v 2) .nil)) .nil [.vi 0, .vi 1]) (.cons (.call 14 (.cons (.v 2) (.cons (.v 1) .nil)) .nil [.vi 0, .vi 1]) (.cons (.call 14 .nil (.cons (.v 2) (.cons (.v 1) .nil)) [.vi 1, .vi 0]) .nil)))))
    (.cons (.iff (.cmp .NotEq (.e (.bi .repr (.cons (.e (.v 6)) .nil))) (.e (.bi .repr (.cons (.e (.bin .Mult (.lst (.cons (.v 4) .nil)) (.k (D.int 3)))) .nil)))) (.cons (.ret (.k (D.bl false)))
    .nil) .nil)
    (.cons (.asg (.nm 7) (.and_ (.cmp .LtE (.e (.bi .max (.cons (.e (.call 25 (.cons (.v 1) (.cons (.v 2) (.cons (.k (D.int 0)) .nil))) .nil [.vi 0, .vi 1, .vi 2])) (.cons (.e (.call 25 (.cons (.v 1) (.cons (.v 2) (.cons (.k (D.int 1)) .nil))) .nil [.vi 0, .vi 1, .vi 2])) .nil)))) (.e (.v 3))) (.and_ (.cmp .LtE (.e (.sub (.e (.v 1)) (.k (D.int 4)))) (.e (.sub (.e (.v 2)) (.k (D.int 5))))) (.cmp .LtE (.e (.sub (.e (.v 2)) (.k (D.int 4)))) (.e (.sub (.e (.v 1)) (.k (D.int 5))))))))
    (.cons (.ret (.and_ (.cmp .Eq (.e (.bi .repr (.cons (.e (.call 14 (.cons (.sub (.e (.call 13 (.cons (.v 0) (.cons (.tup (.cons (.v 1) .nil)) (.cons (.v 3) .nil))) .nil [.vi 0, .vi 1, .vi 2])) (.k (D.int 0))) (.cons (.v 2) .nil)) .nil [.vi 0, .vi 1])) .nil))) (.e (.bi .repr (.cons (.e (.v 7)) .nil)))) (.cmp .Eq (.e (.bi .repr (.cons (.e (.tup (.cons (.v 1) (.cons (.v 2) .nil)))) .nil))) (.e (.v 5)))))
    .nil)))))
def f26 : Fn := ⟨4, 8, b26⟩
/-- law, slots: 0 _law_script 1 _law_deck_here 2 _law_many 3 _law_sizes 4 _law_made 5 _law_spaces 6 _law_near 7 _law_due 8 _law_kept 9 _law_here 10 _law_it 11 _law_far 12 _law_k -/
def b27 : Ss := (.cons (.asg (.nm 1) (.call 15 (.cons (.v 0) .nil) .nil [.vi 0]))
    (.cons (.asg (.tp (.cons (.nm 2) (.cons (.nm 3) .nil))) (.tup (.cons (.call 16 (.cons (.v 1) (.cons (.k (D.int 4)) .nil)) .nil [.vi 0, .vi 1]) (.cons (.call 19 (.cons (.v 1) .nil) .nil [.vi 0]) .nil))))
    (.cons (.asg (.nm 4) (.mk 0 11 (.cons (.sub (.e (.v 3)) (.k (D.int 0))) (.cons (.sub (.e (.v 3)) (.k (D.int 1))) .nil)) (.cons (.sub (.e (.v 3)) (.k (D.int 2))) .nil) [.vi 0, .vi 1, .vi 2, .vi 3, .dv D.non, .dv (D.tup []), .dv (D.tup []), .dv (D.tup [])]))
    (.cons (.asg (.nm 5) (.lc [12] (.nm 12) (.rng1 (.call 16 (.cons (.v 1) (.cons (.k (D.int 6)) .nil)) .nil [.vi 0, .vi 1])) .none (.call 20 (.cons (.v 1) (.cons (.v 3) .nil)) .nil [.vi 0, .vi 1])))
    (.cons (.asg (.nm 6) (.lc [10] (.nm 10) (.seq (.v 5)) .none (.call 21 (.cons (.v 1) (.cons (.v 3) (.cons (.v 10) .nil))) .nil [.vi 0, .vi 1, .vi 2])))
    (.cons (.asg (.tp (.cons (.nm 7) (.cons (.nm 8) .nil))) (.tup (.cons (.bi .tuple (.cons (.e (.lc [10] (.nm 10) (.seq (.v 5)) .none (.call 24 (.cons (.v 3) (.cons (.v 10) (.cons (.v 2) .nil))) .nil [.vi 0, .vi 1, .vi 2]))) .nil)) (.cons (.bi .repr (.cons (.e (.v 5)) .nil)) .nil))))
    (.cons (.asg (.nm 9) (.lst (.cons (.call 13 (.cons (.v 4) (.cons (.bi .tuple (.cons (.e (.v 5)) .nil)) (.cons (.v 2) .nil))) .nil [.vi 0, .vi 1, .vi 2]) (.cons (.call 13 .nil (.cons (.v 2) (.cons (.bi .tuple (.cons (.e (.v 5)) .nil)) (.cons (.v 4) .nil))) [.vi 2, .vi 1, .vi 0]) .nil))))
    (.cons (.iff (.or_ (.cmp .NotEq (.e (.bi .repr (.cons (.e (.v 9)) .nil))) (.e (.bi .repr (.cons (.e (.lst (.cons (.v 7) (.cons (.v 7) .nil)))) .nil)))) (.cmp .NotEq (.e (.bi .repr (.cons (.e (.v 5)) .nil))) (.e (.v 8)))) (.cons (.ret (.k (D.bl false)))
    .nil) .nil)
    (.cons (.fr (.nm 10) (.seq (.bin .Add (.v 5) (.v 6))) (.cons (.fr (.nm 11) (.seq (.bin .Add (.v 5) (.v 6))) (.cons (.iff (.nt (.call 26 (.cons (.v 4) (.cons (.v 10) (.cons (.v 11) (.cons (.v 2) .nil)))) .nil [.vi 0, .vi 1, .vi 2, .vi 3])) (.cons (.ret (.k (D.bl false)))
    .nil) .nil)
    .nil))
    .nil))
    (.cons (.ret (.k (D.bl true)))
    .nil))))))))))
def f27 : Fn := ⟨1, 13, b27⟩
def Gk37 : List (Nat × Fn) := [(0, f0), (1, f1), (2, f2), (3, f3), (4, f4), (5, f5), (6, f6), (7, f7), (8, f8), (9, f9), (10, f10), (11, f11), (12, f12), (13, f13), (14, f14), (15, f15), (16, f16), (17, f17), (18, f18), (19, f19), (20, f20), (21, f21), (22, f22), (23, f23), (24, f24), (25, f25), (26, f26), (27, f27)]
theorem hf0 {P : Prg} [h : HasF P Gk37] : P.fs.lookup 0 = some f0 := h.h _ (List.mem_of_getElem? (i := 0) rfl)
theorem hf1 {P : Prg} [h : HasF P Gk37] : P.fs.lookup 1 = some f1 := h.h _ (List.mem_of_getElem? (i := 1) rfl)
theorem hf2 {P : Prg} [h : HasF P Gk37] : P.fs.lookup 2 = some f2 := h.h _ (List.mem_of_getElem? (i := 2) rfl)
theorem hf3 {P : Prg} [h : HasF P Gk37] : P.fs.lookup 3 = some f3 := h.h _ (List.mem_of_getElem? (i := 3) rfl)
theorem hf4 {P : Prg} [h : HasF P Gk37] : P.fs.lookup 4 = some f4 := h.h _ (List.mem_of_getElem? (i := 4) rfl)
theorem hf5 {P : Prg} [h : HasF P Gk37] : P.fs.lookup 5 = some f5 := h.h _ (List.mem_of_getElem? (i := 5) rfl)
theorem hf6 {P : Prg} [h : HasF P Gk37] : P.fs.lookup 6 = some f6 := h.h _ (List.mem_of_getElem? (i := 6) rfl)
theorem hf7 {P : Prg} [h : HasF P Gk37] : P.fs.lookup 7 = some f7 := h.h _ (List.mem_of_getElem? (i := 7) rfl)
theorem hf8 {P : Prg} [h : HasF P Gk37] : P.fs.lookup 8 = some f8 := h.h _ (List.mem_of_getElem? (i := 8) rfl)
theorem hf9 {P : Prg} [h : HasF P Gk37] : P.fs.lookup 9 = some f9 := h.h _ (List.mem_of_getElem? (i := 9) rfl)
theorem hf10 {P : Prg} [h : HasF P Gk37] : P.fs.lookup 10 = some f10 := h.h _ (List.mem_of_getElem? (i := 10) rfl)
theorem hf11 {P : Prg} [h : HasF P Gk37] : P.fs.lookup 11 = some f11 := h.h _ (List.mem_of_getElem? (i := 11) rfl)
theorem hf12 {P : Prg} [h : HasF P Gk37] : P.fs.lookup 12 = some f12 := h.h _ (List.mem_of_getElem? (i := 12) rfl)
theorem hf13 {P : Prg} [h : HasF P Gk37] : P.fs.lookup 13 = some f13 := h.h _ (List.mem_of_getElem? (i := 13) rfl)
theorem hf14 {P : Prg} [h : HasF P Gk37] : P.fs.lookup 14 = some f14 := h.h _ (List.mem_of_getElem? (i := 14) rfl)
theorem hf15 {P : Prg} [h : HasF P Gk37] : P.fs.lookup 15 = some f15 := h.h _ (List.mem_of_getElem? (i := 15) rfl)
theorem hf16 {P : Prg} [h : HasF P Gk37] : P.fs.lookup 16 = some f16 := h.h _ (List.mem_of_getElem? (i := 16) rfl)
theorem hf17 {P : Prg} [h : HasF P Gk37] : P.fs.lookup 17 = some f17 := h.h _ (List.mem_of_getElem? (i := 17) rfl)
theorem hf18 {P : Prg} [h : HasF P Gk37] : P.fs.lookup 18 = some f18 := h.h _ (List.mem_of_getElem? (i := 18) rfl)
theorem hf19 {P : Prg} [h : HasF P Gk37] : P.fs.lookup 19 = some f19 := h.h _ (List.mem_of_getElem? (i := 19) rfl)
theorem hf20 {P : Prg} [h : HasF P Gk37] : P.fs.lookup 20 = some f20 := h.h _ (List.mem_of_getElem? (i := 20) rfl)
theorem hf21 {P : Prg} [h : HasF P Gk37] : P.fs.lookup 21 = some f21 := h.h _ (List.mem_of_getElem? (i := 21) rfl)
theorem hf22 {P : Prg} [h : HasF P Gk37] : P.fs.lookup 22 = some f22 := h.h _ (List.mem_of_getElem? (i := 22) rfl)
theorem hf23 {P : Prg} [h : HasF P Gk37] : P.fs.lookup 23 = some f23 := h.h _ (List.mem_of_getElem? (i := 23) rfl)
theorem hf24 {P : Prg} [h : HasF P Gk37] : P.fs.lookup 24 = some f24 := h.h _ (List.mem_of_getElem? (i := 24) rfl)
theorem hf25 {P : Prg} [h : HasF P Gk37] : P.fs.lookup 25 = some f25 := h.h _ (List.mem_of_getElem? (i := 25) rfl)
theorem hf26 {P : Prg} [h : HasF P Gk37] : P.fs.lookup 26 = some f26 := h.h _ (List.mem_of_getElem? (i := 26) rfl)
theorem hf27 {P : Prg} [h : HasF P Gk37] : P.fs.lookup 27 = some f27 := h.h _ (List.mem_of_getElem? (i := 27) rfl)
end Wf
set_option Elab.async false
set_option linter.all false
set_option maxRecDepth 100000
set_option maxHeartbeats 4000000
namespace Wf
open PySem L2
/-- has_square, slots: 0 box 1 x 2 y 3 left 4 low 5 right 6 top 7 others -/
def b49 : Ss := (.cons (.asg (.st (.cons (.nm 3) (.cons (.nm 4) (.cons (.nm 5) (.cons (.nm 6) (.cons (.nm 7) .nil))))) 4) (.v 0))
    (.cons (.ret (.and_ (.chn .LtE .LtE (.v 3) (.v 1) (.v 5)) (.chn .LtE .LtE (.v 4) (.v 2) (.v 6))))
    .nil))
def f49 : Fn := ⟨3, 8, b49⟩
/-- is_in, slots: 0 room 1 x 2 y 3 beat 4 box 5 first 6 last -/
def b50 : Ss := (.cons (.asg (.st (.cons (.nm 4) (.cons (.nm 5) (.cons (.nm 6) .nil))) 0) (.v 0))
    (.cons (.ret (.and_ (.call 49 (.cons (.v 4) (.cons (.v 1) (.cons (.v 2) .nil))) .nil [.vi 0, .vi 1, .vi 2]) (.chn .LtE .LtE (.v 5) (.v 3) (.v 6))))
    .nil))
def f50 : Fn := ⟨4, 7, b50⟩
/-- is_beside, slots: 0 room 1 x 2 y 3 beat 4 left 5 low 6 right 7 top 8 first 9 last -/
def b51 : Ss := (.cons (.asg (.tp (.cons (.nm 4) (.cons (.nm 5) (.cons (.nm 6) (.cons (.nm 7) (.cons (.nm 8) (.cons (.nm 9) .nil))))))) (.v 0))
    (.cons (.ret (.call 50 (.cons (.tup (.cons (.bin .Sub (.v 4) (.k (D.int 1))) (.cons (.bin .Sub (.v 5) (.k (D.int 1))) (.cons (.bin .Add (.v 6) (.k (D.int 1))) (.cons (.bin .Add (.v 7) (.k (D.int 1))) (.cons (.v 8) (.cons (.v 9) .nil))))))) (.cons (.v 1) (.cons (.v 2) (.cons (.v 3) .nil)))) .nil [.vi 0, .vi 1, .vi 2, .vi 3]))
    .nil))
def f51 : Fn := ⟨4, 10, b51⟩
/-- Land_has, slots: 0 self 1 x 2 y -/
def b52 : Ss := (.cons (.ret (.and_ (.chn .LtE .Lt (.k (D.int 0)) (.v 1) (.att 0 (.v 0) "wide")) (.chn .LtE .Lt (.k (D.int 0)) (.v 2) (.att 0 (.v 0) "high"))))
    .nil)
def f52 : Fn := ⟨3, 3, b52⟩
/-- Land_height_at, slots: 0 self 1 x 2 y -/
def b53 : Ss := (.cons (.ret (.ite (.cmp .Is (.e (.att 0 (.v 0) "heights")) (.e (.k D.non))) (.k (D.int 0)) (.sub (.e (.sub (.e (.att 0 (.v 0) "heights")) (.v 2))) (.v 1))))
    .nil)
def f53 : Fn := ⟨3, 3, b53⟩
/-- Land_pad_at, slots: 0 self 1 x 2 y 3 found 4 number 5 pad -/
def b54 : Ss := (.cons (.asg (.nm 3) (.lc [4, 5] (.tp (.cons (.nm 4) (.cons (.nm 5) .nil))) (.enm (.att 0 (.v 0) "pads")) (.some (.call 49 (.cons (.v 5) (.cons (.v 1) (.cons (.v 2) .nil))) .nil [.vi 0, .vi 1, .vi 2])) (.v 4)))
    (.cons (.ret (.ite (.cmp .NotEq (.e (.v 3)) (.e (.lst .nil))) (.sub (.e (.v 3)) (.k (D.int 0))) (.k D.non)))
    .nil))
def f54 : Fn := ⟨3, 6, b54⟩
/-- Land_hurts, slots: 0 self 1 x 2 y 3 beat 4 ceiling 5 room -/
def b55 : Ss := (.cons (.iff (.nt (.meth 0 52 "has" (.v 0) (.cons (.v 1) (.cons (.v 2) .nil)) .nil [.vi 0, .vi 1, .vi 2])) (.cons (.ret (.k (D.str "out")))
    .nil) .nil)
    (.cons (.iff (.cmp .Gt (.e (.meth 0 53 "height_at" (.v 0) (.cons (.v 1) (.cons (.v 2) .nil)) .nil [.vi 0, .vi 1, .vi 2])) (.e (.v 4))) (.cons (.ret (.k (D.str "high")))
    .nil) .nil)
    (.cons (.iff (.bi .any (.cons (.e (.lc [5] (.nm 5) (.seq (.att 0 (.v 0) "barred")) .none (.call 50 (.cons (.v 5) (.cons (.v 1) (.cons (.v 2) (.cons (.v 3) .nil)))) .nil [.vi 0, .vi 1, .vi 2, .vi 3]))) .nil)) (.cons (.ret (.k (D.str "barred")))
    .nil) .nil)
    (.cons (.ret (.ite (.bi .any (.cons (.e (.lc [5] (.nm 5) (.seq (.att 0 (.v 0) "people")) .none (.call 51 (.cons (.v 5) (.cons (.v 1) (.cons (.v 2) (.cons (.v 3) .nil)))) .nil [.vi 0, .vi 1, .vi 2, .vi 3]))) .nil)) (.k (D.str "people")) (.k D.non)))
    .nil))))
def f55 : Fn := ⟨5, 6, b55⟩
/-- last_step, slots: 0 task -/
def b56 : Ss := (.cons (.iff (.cmp .Is (.e (.v 0)) (.e (.k D.non))) (.cons (.ret (.k (D.int 0)))
    .nil) .nil)
    (.cons (.ret (.ite (.cmp .Eq (.e (.sub (.e (.v 0)) (.k (D.int 0)))) (.e (.k (D.str "over")))) (.sub (.e (.v 0)) (.k (D.int 2))) (.sub (.e (.gl (D.kdc [("look", (D.int 1)), ("bring", (D.int 2))]))) (.sub (.e (.v 0)) (.k (D.int 0))))))
    .nil))
def f56 : Fn := ⟨1, 1, b56⟩
/-- box_for, slots: 0 task 1 step -/
def b57 : Ss := (.cons (.ret (.ite (.and_ (.cmp .Eq (.e (.sub (.e (.v 0)) (.k (D.int 0)))) (.e (.k (D.str "bring")))) (.cmp .Eq (.e (.v 1)) (.e (.k (D.int 1))))) (.sub (.e (.v 0)) (.k (D.int 2))) (.sub (.e (.v 0)) (.k (D.int 1)))))
    .nil)
def f57 : Fn := ⟨2, 2, b57⟩
/-- step_by, slots: 0 task 1 step 2 x 3 y 4 beat 5 others 6 first 7 last -/
def b58 : Ss := (.cons (.iff (.or_ (.cmp .Is (.e (.v 0)) (.e (.k D.non))) (.cmp .Eq (.e (.v 1)) (.e (.call 56 (.cons (.v 0) .nil) .nil [.vi 0])))) (.cons (.ret (.v 1))
    .nil) .nil)
    (.cons (.asg (.st (.cons (.nm 5) (.cons (.nm 6) (.cons (.nm 7) .nil))) 0) (.v 0))
    (.cons (.iff (.and_ (.chn .LtE .LtE (.v 6) (.v 4) (.v 7)) (.call 49 (.cons (.call 57 (.cons (.v 0) (.cons (.v 1) .nil)) .nil [.vi 0, .vi 1]) (.cons (.v 2) (.cons (.v 3) .nil))) .nil [.vi 0, .vi 1, .vi 2])) (.cons (.ret (.bin .Add (.v 1) (.k (D.int 1))))
    .nil) .nil)
    (.cons (.ret (.ite (.cmp .Eq (.e (.sub (.e (.v 0)) (.k (D.int 0)))) (.e (.k (D.str "over")))) (.k (D.int 0)) (.v 1)))
    .nil))))
def f58 : Fn := ⟨5, 8, b58⟩
/-- load_of, slots: 0 task 1 step -/
def b59 : Ss := (.cons (.iff (.or_ (.cmp .Is (.e (.v 0)) (.e (.k D.non))) (.or_ (.cmp .NotEq (.e (.sub (.e (.v 0)) (.k (D.int 0)))) (.e (.k (D.str "bring")))) (.cmp .NotEq (.e (.v 1)) (.e (.k (D.int 1)))))) (.cons (.ret (.k (D.int 0)))
    .nil) .nil)
    (.cons (.ret (.sub (.e (.v 0)) (.k (D.int 3))))
    .nil))
def f59 : Fn := ⟨2, 2, b59⟩
/-- is_standing, slots: 0 land 1 flight 2 row 3 x 4 y -/
def b60 : Ss := (.cons (.ret (.or_ (.cmp .Eq (.e (.sub (.e (.v 2)) (.k (D.int 0)))) (.e (.gl (D.str "stand")))) (.and_ (.cmp .Eq (.e (.v 2)) (.e (.gl (D.tup [(D.str "home")])))) (.cmp .Eq (.e (.meth 0 54 "pad_at" (.v 0) (.cons (.v 3) (.cons (.v 4) .nil)) .nil [.vi 0, .vi 1, .vi 2])) (.e (.sub (.e (.v 1)) (.k (D.int 4))))))))
    .nil)
def f60 : Fn := ⟨5, 5, b60⟩
/-- cost_of, slots: 0 task 1 step 2 wish 3 wind 4 against 5 one 6 other -/
def b61 : Ss := (.cons (.asg (.nm 4) (.lc [5, 6] (.tp (.cons (.nm 5) (.cons (.nm 6) .nil))) (.zps (.v 2) (.v 3)) (.some (.cmp .Lt (.e (.bin .Mult (.v 5) (.v 6))) (.e (.k (D.int 0))))) (.v 5)))
    (.cons (.ret (.bin .Add (.bin .Add (.bin .Add (.bin .Add (.k (D.int 1)) (.bi .abs (.cons (.e (.sub (.e (.v 2)) (.k (D.int 0)))) .nil))) (.bi .abs (.cons (.e (.sub (.e (.v 2)) (.k (D.int 1)))) .nil))) (.bi .len (.cons (.e (.v 4)) .nil))) (.call 59 (.cons (.v 0) (.cons (.v 1) .nil)) .nil [.vi 0, .vi 1])))
    .nil))
def f61 : Fn := ⟨4, 7, b61⟩
/-- carried, slots: 0 land 1 flight 2 row 3 state 4 wind 5 flyer 6 start 7 way 8 task 9 home 10 x 11 y 12 step 13 charge 14 wish -/
def b62 : Ss := (.cons (.asg (.tp (.cons (.nm 5) (.cons (.nm 6) (.cons (.nm 7) (.cons (.nm 8) (.cons (.nm 9) .nil)))))) (.v 1))
    (.cons (.asg (.tp (.cons (.nm 10) (.cons (.nm 11) (.cons (.nm 12) (.cons (.nm 13) .nil))))) (.v 3))
    (.cons (.iff (.call 60 (.cons (.v 0) (.cons (.v 1) (.cons (.v 2) (.cons (.v 10) (.cons (.v 11) .nil))))) .nil [.vi 0, .vi 1, .vi 2, .vi 3, .vi 4]) (.cons (.iff (.cmp .Is (.e (.meth 0 54 "pad_at" (.v 0) (.cons (.v 10) (.cons (.v 11) .nil)) .nil [.vi 0, .vi 1, .vi 2])) (.e (.k D.non))) (.cons (.ret (.k D.non))
    .nil) .nil)
    (.cons (.ret (.tup (.cons (.v 10) (.cons (.v 11) (.cons (.bi .min (.cons (.e (.sub (.e (.v 5)) (.k (D.int 2)))) (.cons (.e (.bin .Add (.v 13) (.sub (.e (.v 5)) (.k (D.int 3))))) .nil))) .nil)))))
    .nil)) .nil)
    (.cons (.asg (.nm 14) (.call 31 (.cons (.v 0) (.cons (.v 1) (.cons (.v 2) (.cons (.v 10) (.cons (.v 11) .nil))))) .nil [.vi 0, .vi 1, .vi 2, .vi 3, .vi 4]))
    (.cons (.ret (.tup (.cons (.bin .Add (.bin .Add (.v 10) (.sub (.e (.v 14)) (.k (D.int 0)))) (.sub (.e (.v 4)) (.k (D.int 0)))) (.cons (.bin .Add (.bin .Add (.v 11) (.sub (.e (.v 14)) (.k (D.int 1)))) (.sub (.e (.v 4)) (.k (D.int 1)))) (.cons (.bin .Sub (.v 13) (.call 61 (.cons (.v 8) (.cons (.v 12) (.cons (.v 14) (.cons (.v 4) .nil)))) .nil [.vi 0, .vi 1, .vi 2, .vi 3])) .nil)))))
    .nil)))))
def f62 : Fn := ⟨5, 15, b62⟩
/-- arrived, slots: 0 land 1 flight 2 beat 3 step 4 there 5 x 6 y 7 charge 8 word -/
def b63 : Ss := (.cons (.asg (.tp (.cons (.nm 5) (.cons (.nm 6) (.cons (.nm 7) .nil)))) (.v 4))
    (.cons (.asg (.nm 8) (.meth 0 55 "hurts" (.v 0) (.cons (.v 5) (.cons (.v 6) (.cons (.v 2) (.cons (.sub (.e (.sub (.e (.v 1)) (.k (D.int 0)))) (.k (D.int 1))) .nil)))) .nil [.vi 0, .vi 1, .vi 2, .vi 3, .vi 4]))
    (.cons (.iff (.cmp .IsNot (.e (.v 8)) (.e (.k D.non))) (.cons (.ret (.tup (.cons (.k D.non) (.cons (.v 8) .nil))))
    .nil) .nil)
    (.cons (.ret (.tup (.cons (.tup (.cons (.v 5) (.cons (.v 6) (.cons (.call 58 (.cons (.sub (.e (.v 1)) (.k (D.int 3))) (.cons (.v 3) (.cons (.v 5) (.cons (.v 6) (.cons (.v 2) .nil))))) .nil [.vi 0, .vi 1, .vi 2, .vi 3, .vi 4]) (.cons (.v 7) .nil))))) (.cons (.k D.non) .nil))))
    .nil))))
def f63 : Fn := ⟨5, 9, b63⟩
/-- beat_done, slots: 0 land 1 flight 2 row 3 beat 4 state 5 wind 6 there -/
def b64 : Ss := (.cons (.asg (.nm 6) (.call 62 (.cons (.v 0) (.cons (.v 1) (.cons (.v 2) (.cons (.v 4) (.cons (.v 5) .nil))))) .nil [.vi 0, .vi 1, .vi 2, .vi 3, .vi 4]))
    (.cons (.iff (.cmp .Is (.e (.v 6)) (.e (.k D.non))) (.cons (.ret (.tup (.cons (.k D.non) (.cons (.gl (D.str "nopad")) .nil))))
    .nil) .nil)
    (.cons (.iff (.cmp .Lt (.e (.sub (.e (.v 6)) (.k (D.int 2)))) (.e (.k (D.int 0)))) (.cons (.ret (.tup (.cons (.k D.non) (.cons (.gl (D.str "empty")) .nil))))
    .nil) .nil)
    (.cons (.ret (.call 63 (.cons (.v 0) (.cons (.v 1) (.cons (.bin .Add (.v 3) (.k (D.int 1))) (.cons (.sub (.e (.v 4)) (.k (D.int 2))) (.cons (.v 6) .nil))))) .nil [.vi 0, .vi 1, .vi 2, .vi 3, .vi 4]))
    .nil))))
def f64 : Fn := ⟨6, 7, b64⟩
/-- lhas, slots: 0 _law_box_here 1 _law_x 2 _law_y -/
def b65 : Ss := (.cons (.ret (.and_ (.chn .LtE .LtE (.sub (.e (.v 0)) (.k (D.int 0))) (.v 1) (.sub (.e (.v 0)) (.k (D.int 2)))) (.chn .LtE .LtE (.sub (.e (.v 0)) (.k (D.int 1))) (.v 2) (.sub (.e (.v 0)) (.k (D.int 3))))))
    .nil)
def f65 : Fn := ⟨3, 3, b65⟩
/-- lpad_at, slots: 0 _law_fields_here 1 _law_x 2 _law_y 3 _law_found 4 _law_k 5 _law_pad -/
def b66 : Ss := (.cons (.asg (.nm 3) (.lc [4, 5] (.tp (.cons (.nm 4) (.cons (.nm 5) .nil))) (.enm (.sub (.e (.v 0)) (.k (D.str "pads")))) (.some (.call 65 (.cons (.v 5) (.cons (.v 1) (.cons (.v 2) .nil))) .nil [.vi 0, .vi 1, .vi 2])) (.v 4)))
    (.cons (.ret (.ite (.cmp .NotEq (.e (.v 3)) (.e (.lst .nil))) (.sub (.e (.v 3)) (.k (D.int 0))) (.k D.non)))
    .nil))
def f66 : Fn := ⟨3, 6, b66⟩
/-- lhurts, slots: 0 _law_fields_here 1 _law_x 2 _law_y 3 _law_clock 4 _law_ceiling 5 _law_a 6 _law_b 7 _law_c 8 _law_d 9 _law_first 10 _law_last_here 11 _law_room_here -/
def b67 : Ss := (.cons (.iff (.or_ (.nt (.chn .LtE .Lt (.k (D.int 0)) (.v 1) (.sub (.e (.v 0)) (.k (D.str "wide"))))) (.nt (.chn .LtE .Lt (.k (D.int 0)) (.v 2) (.sub (.e (.v 0)) (.k (D.str "high")))))) (.cons (.ret (.k (D.str "out")))
    .nil) .nil)
    (.cons (.iff (.and_ (.cmp .IsNot (.e (.sub (.e (.v 0)) (.k (D.str "heights")))) (.e (.k D.non))) (.cmp .Gt (.e (.sub (.e (.sub (.e (.sub (.e (.v 0)) (.k (D.str "heights")))) (.v 2))) (.v 1))) (.e (.v 4)))) (.cons (.ret (.k (D.str "high")))
    .nil) .nil)
    (.cons (.iff (.cmp .NotEq (.e (.lc [11] (.nm 11) (.seq (.sub (.e (.v 0)) (.k (D.str "barred")))) (.some (.and_ (.call 65 (.cons (.v 11) (.cons (.v 1) (.cons (.v 2) .nil))) .nil [.vi 0, .vi 1, .vi 2]) (.chn .LtE .LtE (.sub (.e (.v 11)) (.k (D.int 4))) (.v 3) (.sub (.e (.v 11)) (.k (D.int 5)))))) (.v 11))) (.e (.lst .nil))) (.cons (.ret (.k (D.str "barred")))
    .nil) .nil)
    (.cons (.fr (.tp (.cons (.nm 5) (.cons (.nm 6) (.cons (.nm 7) (.cons (.nm 8) (.cons (.nm 9) (.cons (.nm 10) .nil))))))) (.seq (.sub (.e (.v 0)) (.k (D.str "people")))) (.cons (.iff (.and_ (.chn .LtE .LtE (.bin .Sub (.v 5) (.k (D.int 1))) (.v 1) (.bin .Add (.v 7) (.k (D.int 1)))) (.and_ (.chn .LtE .LtE (.bin .Sub (.v 6) (.k (D.int 1))) (.v 2) (.bin .Add (.v 8) (.k (D.int 1)))) (.chn .LtE .LtE (.v 9) (.v 3) (.v 10)))) (.cons (.ret (.k (D.str "people")))
    .nil) .nil)
    .nil))
    (.cons (.ret (.k D.non))
    .nil)))))
def f67 : Fn := ⟨5, 12, b67⟩
/-- lstep, slots: 0 _law_task_here 1 _law_step_here 2 _law_x 3 _law_y 4 _law_clock 5 _law_during 6 _law_box_here -/
def b68 : Ss := (.cons (.iff (.or_ (.cmp .Is (.e (.v 0)) (.e (.k D.non))) (.cmp .Eq (.e (.v 1)) (.e (.call 39 (.cons (.v 0) .nil) .nil [.vi 0])))) (.cons (.ret (.v 1))
    .nil) .nil)
    (.cons (.asg (.nm 5) (.chn .LtE .LtE (.sub (.e (.v 0)) (.neg (.k (D.int 2)))) (.v 4) (.sub (.e (.v 0)) (.neg (.k (D.int 1))))))
    (.cons (.iff (.cmp .Eq (.e (.sub (.e (.v 0)) (.k (D.int 0)))) (.e (.k (D.str "over")))) (.cons (.ret (.ite (.and_ (.v 5) (.call 65 (.cons (.sub (.e (.v 0)) (.k (D.int 1))) (.cons (.v 2) (.cons (.v 3) .nil))) .nil [.vi 0, .vi 1, .vi 2])) (.bin .Add (.v 1) (.k (D.int 1))) (.k (D.int 0))))
    .nil) .nil)
    (.cons (.asg (.nm 6) (.ite (.and_ (.cmp .Eq (.e (.sub (.e (.v 0)) (.k (D.int 0)))) (.e (.k (D.str "bring")))) (.cmp .Eq (.e (.v 1)) (.e (.k (D.int 1))))) (.sub (.e (.v 0)) (.k (D.int 2))) (.sub (.e (.v 0)) (.k (D.int 1)))))
    (.cons (.ret (.ite (.and_ (.v 5) (.call 65 (.cons (.v 6) (.cons (.v 2) (.cons (.v 3) .nil))) .nil [.vi 0, .vi 1, .vi 2])) (.bin .Add (.v 1) (.k (D.int 1))) (.v 1)))
    .nil)))))
def f68 : Fn := ⟨5, 7, b68⟩
/-- lload, slots: 0 _law_task_here 1 _law_step_here -/
def b69 : Ss := (.cons (.ret (.ite (.and_ (.cmp .IsNot (.e (.v 0)) (.e (.k D.non))) (.and_ (.cmp .Eq (.e (.sub (.e (.v 0)) (.k (D.int 0)))) (.e (.k (D.str "bring")))) (.cmp .Eq (.e (.v 1)) (.e (.k (D.int 1)))))) (.sub (.e (.v 0)) (.k (D.int 3))) (.k (D.int 0))))
    .nil)
def f69 : Fn := ⟨2, 2, b69⟩
/-- lstands, slots: 0 _law_fields_here 1 _law_ours 2 _law_own_row 3 _law_x 4 _law_y -/
def b70 : Ss := (.cons (.ret (.or_ (.cmp .Eq (.e (.sub (.e (.v 2)) (.k (D.int 0)))) (.e (.k (D.str "stand")))) (.and_ (.cmp .Eq (.e (.sub (.e (.v 2)) (.k (D.int 0)))) (.e (.k (D.str "home")))) (.cmp .Eq (.e (.call 66 (.cons (.v 0) (.cons (.v 3) (.cons (.v 4) .nil))) .nil [.vi 0, .vi 1, .vi 2])) (.e (.sub (.e (.v 1)) (.k (D.int 4))))))))
    .nil)
def f70 : Fn := ⟨5, 5, b70⟩
/-- lbeat, slots: 0 _law_fields_here 1 _law_ours 2 _law_own_row 3 _law_clock 4 _law_spot_here 5 _law_blow 6 _law_reach 7 _law_ceiling 8 _law_full 9 _law_gain 10 _law_task_here 11 _law_x 12 _law_y 13 _law_step_here 14 _law_charge 15 _law_word 16 _law_a 17 _law_b 18 _law_against -/
def b71 : Ss := (.cons (.asg (.tp (.cons (.tp (.cons (.nm 6) (.cons (.nm 7) (.cons (.nm 8) (.cons (.nm 9) .nil))))) (.cons (.nm 10) .nil))) (.tup (.cons (.sub (.e (.v 1)) (.k (D.int 0))) (.cons (.sub (.e (.v 1)) (.k (D.int 3))) .nil))))
    (.cons (.asg (.tp (.cons (.nm 11) (.cons (.nm 12) (.cons (.nm 13) (.cons (.nm 14) .nil))))) (.v 4))
    (.cons (.iff (.call 70 (.cons (.v 0) (.cons (.v 1) (.cons (.v 2) (.cons (.v 11) (.cons (.v 12) .nil))))) .nil [.vi 0, .vi 1, .vi 2, .vi 3, .vi 4]) (.cons (.iff (.cmp .Is (.e (.call 66 (.cons (.v 0) (.cons (.v 11) (.cons (.v 12) .nil))) .nil [.vi 0, .vi 1, .vi 2])) (.e (.k D.non))) (.cons (.ret (.tup (.cons (.k D.non) (.cons (.k (D.str "nopad")) .nil))))
    .nil) .nil)
    (.cons (.asg (.nm 14) (.bi .min (.cons (.e (.v 8)) (.cons (.e (.bin .Add (.v 14) (.v 9))) .nil))))
    .nil)) (.cons (.asg (.tp (.cons (.nm 16) (.cons (.nm 17) .nil))) (.call 43 (.cons (.v 0) (.cons (.v 1) (.cons (.v 2) (.cons (.v 11) (.cons (.v 12) .nil))))) .nil [.vi 0, .vi 1, .vi 2, .vi 3, .vi 4]))
    (.cons (.asg (.nm 18) (.bin .Add (.bi .int (.cons (.e (.cmp .Lt (.e (.bin .Mult (.v 16) (.sub (.e (.v 5)) (.k (D.int 0))))) (.e (.k (D.int 0))))) .nil)) (.bi .int (.cons (.e (.cmp .Lt (.e (.bin .Mult (.v 17) (.sub (.e (.v 5)) (.k (D.int 1))))) (.e (.k (D.int 0))))) .nil))))
    (.cons (.asg (.nm 14) (.bin .Sub (.bin .Sub (.bin .Sub (.bin .Sub (.bin .Sub (.v 14) (.k (D.int 1))) (.bi .abs (.cons (.e (.v 16)) .nil))) (.bi .abs (.cons (.e (.v 17)) .nil))) (.v 18)) (.call 69 (.cons (.v 10) (.cons (.v 13) .nil)) .nil [.vi 0, .vi 1])))
    (.cons (.asg (.tp (.cons (.nm 11) (.cons (.nm 12) .nil))) (.tup (.cons (.bin .Add (.bin .Add (.v 11) (.v 16)) (.sub (.e (.v 5)) (.k (D.int 0)))) (.cons (.bin .Add (.bin .Add (.v 12) (.v 17)) (.sub (.e (.v 5)) (.k (D.int 1)))) .nil))))
    .nil)))))
    (.cons (.iff (.cmp .Lt (.e (.v 14)) (.e (.k (D.int 0)))) (.cons (.ret (.tup (.cons (.k D.non) (.cons (.k (D.str "empty")) .nil))))
    .nil) .nil)
    (.cons (.asg (.nm 15) (.call 67 (.cons (.v 0) (.cons (.v 11) (.cons (.v 12) (.cons (.bin .Add (.v 3) (.k (D.int 1))) (.cons (.v 7) .nil))))) .nil [.vi 0, .vi 1, .vi 2, .vi 3, .vi 4]))
    (.cons (.iff (.cmp .IsNot (.e (.v 15)) (.e (.k D.non))) (.cons (.ret (.tup (.cons (.k D.non) (.cons (.v 15) .nil))))
    .nil) .nil)
    (.cons (.ret (.tup (.cons (.tup (.cons (.v 11) (.cons (.v 12) (.cons (.call 68 (.cons (.v 10) (.cons (.v 13) (.cons (.v 11) (.cons (.v 12) (.cons (.bin .Add (.v 3) (.k (D.int 1))) .nil))))) .nil [.vi 0, .vi 1, .vi 2, .vi 3, .vi 4]) (.cons (.v 14) .nil))))) (.cons (.k D.non) .nil))))
    .nil)))))))
def f71 : Fn := ⟨6, 19, b71⟩
/-- lover, slots: 0 _law_deck_here 1 _law_fields_here 2 _law_sort 3 _law_pad 4 _law_corner 5 _law_square -/
def b72 : Ss := (.cons (.asg (.nm 3) (.call 17 (.cons (.v 0) (.cons (.sub (.e (.v 1)) (.k (D.str "pads"))) .nil)) .nil [.vi 0, .vi 1]))
    (.cons (.asg (.nm 4) (.sub (.e (.lst (.cons (.tup (.cons (.sub (.e (.v 3)) (.k (D.int 0))) (.cons (.sub (.e (.v 3)) (.k (D.int 1))) .nil))) (.cons (.tup (.cons (.sub (.e (.v 3)) (.k (D.int 2))) (.cons (.sub (.e (.v 3)) (.k (D.int 3))) .nil))) .nil)))) (.call 16 (.cons (.v 0) (.cons (.k (D.int 2)) .nil)) .nil [.vi 0, .vi 1])))
    (.cons (.asg (.nm 5) (.tup (.cons (.call 16 (.cons (.v 0) (.cons (.sub (.e (.v 1)) (.k (D.str "wide"))) .nil)) .nil [.vi 0, .vi 1]) (.cons (.call 16 (.cons (.v 0) (.cons (.sub (.e (.v 1)) (.k (D.str "high"))) .nil)) .nil [.vi 0, .vi 1]) .nil))))
    (.cons (.ret (.sub (.e (.lst (.cons (.v 4) (.cons (.v 5) .nil)))) (.bi .int (.cons (.e (.cmp .Gt (.e (.v 2)) (.e (.k (D.int 1))))) .nil))))
    .nil))))
def f72 : Fn := ⟨3, 6, b72⟩
/-- lcase, slots: 0 _law_deck_here 1 _law_fields_here 2 _law_own_flight 3 _law_sort 4 _law_x 5 _law_y 6 _law_clock 7 _law_step_here 8 _law_charge 9 _law_blow 10 _law_goes 11 _law_aims 12 _law_own_row 13 _law_spot_here 14 _law_behind 15 _law_word 16 _law_costs -/
def b73 : Ss := (.cons (.asg (.nm 3) (.call 16 (.cons (.v 0) (.cons (.k (D.int 6)) .nil)) .nil [.vi 0, .vi 1]))
    (.cons (.asg (.tp (.cons (.nm 4) (.cons (.nm 5) .nil))) (.call 72 (.cons (.v 0) (.cons (.v 1) (.cons (.v 3) .nil))) .nil [.vi 0, .vi 1, .vi 2]))
    (.cons (.asg (.tp (.cons (.nm 6) (.cons (.nm 7) .nil))) (.tup (.cons (.call 16 (.cons (.v 0) (.cons (.sub (.e (.v 1)) (.k (D.str "day"))) .nil)) .nil [.vi 0, .vi 1]) (.cons (.call 16 (.cons (.v 0) (.cons (.bin .Add (.call 39 (.cons (.sub (.e (.v 2)) (.k (D.int 3))) .nil) .nil [.vi 0]) (.k (D.int 1))) .nil)) .nil [.vi 0, .vi 1]) .nil))))
    (.cons (.asg (.nm 8) (.bi .min (.cons (.e (.sub (.e (.sub (.e (.v 2)) (.k (D.int 0)))) (.k (D.int 2)))) (.cons (.e (.sub (.e (.lst (.cons (.k (D.int 0)) (.cons (.call 16 (.cons (.v 0) (.cons (.k (D.int 9)) .nil)) .nil [.vi 0, .vi 1]) (.cons (.call 16 (.cons (.v 0) (.cons (.k (D.int 100)) .nil)) .nil [.vi 0, .vi 1]) (.cons (.k (D.int 99)) .nil)))))) (.call 16 (.cons (.v 0) (.cons (.k (D.int 4)) .nil)) .nil [.vi 0, .vi 1]))) .nil))))
    (.cons (.asg (.nm 9) (.tup (.cons (.bin .Sub (.call 16 (.cons (.v 0) (.cons (.k (D.int 5)) .nil)) .nil [.vi 0, .vi 1]) (.k (D.int 2))) (.cons (.bin .Sub (.call 16 (.cons (.v 0) (.cons (.k (D.int 5)) .nil)) .nil [.vi 0, .vi 1]) (.k (D.int 2))) .nil))))
    (.cons (.asg (.nm 10) (.tup (.cons (.k (D.str "go")) (.cons (.bin .Sub (.call 16 (.cons (.v 0) (.cons (.k (D.int 5)) .nil)) .nil [.vi 0, .vi 1]) (.k (D.int 2))) (.cons (.bin .Sub (.call 16 (.cons (.v 0) (.cons (.k (D.int 5)) .nil)) .nil [.vi 0, .vi 1]) (.k (D.int 2))) .nil)))))
    (.cons (.asg (.nm 11) (.tup (.cons (.k (D.str "aim")) (.cons (.call 16 (.cons (.v 0) (.cons (.k (D.int 12)) .nil)) .nil [.vi 0, .vi 1]) (.cons (.call 16 (.cons (.v 0) (.cons (.k (D.int 12)) .nil)) .nil [.vi 0, .vi 1]) .nil)))))
    (.cons (.asg (.nm 12) (.call 17 (.cons (.v 0) (.cons (.sub (.e (.lst (.cons (.lst (.cons (.tup (.cons (.k (D.str "stand")) .nil)) (.cons (.tup (.cons (.k (D.str "home")) .nil)) .nil))) (.cons (.lst (.cons (.tup (.cons (.k (D.str "home")) .nil)) (.cons (.v 11) .nil))) (.cons (.lst (.cons (.tup (.cons (.k (D.str "stand")) .nil)) .nil)) (.cons (.lst (.cons (.v 10) (.cons (.v 11) (.cons (.tup (.cons (.k (D.str "home")) .nil)) .nil)))) (.cons (.lst (.cons (.v 10) (.cons (.v 11) .nil))) (.cons (.lst (.cons (.v 11) (.cons (.tup (.cons (.k (D.str "home")) .nil)) .nil))) .nil)))))))) (.v 3)) .nil)) .nil [.vi 0, .vi 1]))
    (.cons (.asg (.nm 13) (.tup (.cons (.v 4) (.cons (.v 5) (.cons (.v 7) (.cons (.v 8) .nil))))))
    (.cons (.iff (.cmp .Eq (.e (.v 3)) (.e (.k (D.int 4)))) (.cons (.asg (.tp (.cons (.nm 14) (.cons (.nm 15) .nil))) (.call 71 (.cons (.v 1) (.cons (.v 2) (.cons (.v 12) (.cons (.v 6) (.cons (.tup (.cons (.v 4) (.cons (.v 5) (.cons (.v 7) (.cons (.bin .Pow (.k (D.int 10)) (.k (D.int 6))) .nil))))) (.cons (.v 9) .nil)))))) .nil [.vi 0, .vi 1, .vi 2, .vi 3, .vi 4, .vi 5]))
    (.cons (.asg (.nm 16) (.ite (.cmp .IsNot (.e (.v 14)) (.e (.k D.non))) (.bin .Sub (.bin .Pow (.k (D.int 10)) (.k (D.int 6))) (.sub (.e (.v 14)) (.k (D.int 3)))) (.k (D.int 2))))
    (.cons (.asg (.nm 13) (.tup (.cons (.v 4) (.cons (.v 5) (.cons (.v 7) (.cons (.bi .max (.cons (.e (.k (D.int 0))) (.cons (.e (.bi .min (.cons (.e (.sub (.e (.sub (.e (.v 2)) (.k (D.int 0)))) (.k (D.int 2)))) (.cons (.e (.bin .Sub (.v 16) (.call 16 (.cons (.v 0) (.cons (.k (D.int 2)) .nil)) .nil [.vi 0, .vi 1]))) .nil)))) .nil))) .nil))))))
    .nil))) .nil)
    (.cons (.ret (.tup (.cons (.v 12) (.cons (.v 6) (.cons (.v 13) (.cons (.v 9) .nil))))))
    .nil)))))))))))
def f73 : Fn := ⟨3, 17, b73⟩
/-- law_3, slots: 0 _law_script 1 _law_deck_here 2 _law_k 3 _law_fields_here 4 _law_own_land 5 _law_own_flight 6 _law_at 7 _law_own_row 8 _law_clock 9 _law_spot_here 10 _law_blow 11 _law_kept 12 _law_due 13 _law_again 14 _law_named -/
def b74 : Ss := (.cons (.asg (.nm 1) (.call 15 (.cons (.v 0) .nil) .nil [.vi 0]))
    (.cons (.fr (.nm 2) (.rng1 (.k (D.int 2))) (.cons (.asg (.nm 3) (.call 37 (.cons (.v 1) (.cons (.k (D.int 3)) .nil)) .nil [.vi 0, .vi 1]))
    (.cons (.asg (.tp (.cons (.nm 4) (.cons (.nm 5) .nil))) (.tup (.cons (.call 44 (.cons (.v 3) .nil) .nil [.vi 0]) (.cons (.call 41 (.cons (.v 1) (.cons (.v 3) (.cons (.cmp .Eq (.e (.call 16 (.cons (.v 1) (.cons (.k (D.int 3)) .nil)) .nil [.vi 0, .vi 1])) (.e (.k (D.int 0)))) .nil))) .nil [.vi 0, .vi 1, .vi 2]) .nil))))
    (.cons (.fr (.nm 6) (.rng1 (.k (D.int 14))) (.cons (.asg (.tp (.cons (.nm 7) (.cons (.nm 8) (.cons (.nm 9) (.cons (.nm 10) .nil))))) (.call 73 (.cons (.v 1) (.cons (.v 3) (.cons (.v 5) .nil))) .nil [.vi 0, .vi 1, .vi 2]))
    (.cons (.asg (.nm 11) (.bi .repr (.cons (.e (.tup (.cons (.v 5) (.cons (.v 7) (.cons (.v 9) (.cons (.v 10) .nil)))))) .nil)))
    (.cons (.asg (.nm 12) (.bi .repr (.cons (.e (.call 71 (.cons (.v 3) (.cons (.v 5) (.cons (.v 7) (.cons (.v 8) (.cons (.v 9) (.cons (.v 10) .nil)))))) .nil [.vi 0, .vi 1, .vi 2, .vi 3, .vi 4, .vi 5])) .nil)))
    (.cons (.fr (.nm 13) (.rng1 (.k (D.int 2))) (.cons (.iff (.cmp .NotEq (.e (.bi .repr (.cons (.e (.call 64 (.cons (.v 4) (.cons (.v 5) (.cons (.v 7) (.cons (.v 8) (.cons (.v 9) (.cons (.v 10) .nil)))))) .nil [.vi 0, .vi 1, .vi 2, .vi 3, .vi 4, .vi 5])) .nil))) (.e (.v 12))) (.cons (.ret (.k (D.bl false)))
    .nil) .nil)
    .nil))
    (.cons (.asg (.nm 14) (.call 64 .nil (.cons (.v 10) (.cons (.v 9) (.cons (.v 8) (.cons (.v 7) (.cons (.v 5) (.cons (.v 4) .nil)))))) [.vi 5, .vi 4, .vi 3, .vi 2, .vi 1, .vi 0]))
    (.cons (.iff (.or_ (.cmp .NotEq (.e (.bi .repr (.cons (.e (.v 14)) .nil))) (.e (.v 12))) (.cmp .NotEq (.e (.bi .repr (.cons (.e (.tup (.cons (.v 5) (.cons (.v 7) (.cons (.v 9) (.cons (.v 10) .nil)))))) .nil))) (.e (.v 11)))) (.cons (.ret (.k (D.bl false)))
    .nil) .nil)
    .nil)))))))
    .nil))))
    (.cons (.ret (.k (D.bl true)))
    .nil)))
def f74 : Fn := ⟨1, 15, b74⟩
def Gk08 : List (Nat × Fn) := [(49, f49), (50, f50), (51, f51), (52, f52), (53, f53), (54, f54), (55, f55), (56, f56), (57, f57), (58, f58), (59, f59), (60, f60), (61, f61), (62, f62), (63, f63), (64, f64), (65, f65), (66, f66), (67, f67), (68, f68), (69, f69), (70, f70), (71, f71), (72, f72), (73, f73), (74, f74)]
theorem hf49 {P : Prg} [h : HasF P Gk08] : P.fs.lookup 49 = some f49 := h.h _ (List.mem_of_getElem? (i := 0) rfl)
theorem hf50 {P : Prg} [h : HasF P Gk08] : P.fs.lookup 50 = some f50 := h.h _ (List.mem_of_getElem? (i := 1) rfl)
theorem hf51 {P : Prg} [h : HasF P Gk08] : P.fs.lookup 51 = some f51 := h.h _ (List.mem_of_getElem? (i := 2) rfl)
theorem hf52 {P : Prg} [h : HasF P Gk08] : P.fs.lookup 52 = some f52 := h.h _ (List.mem_of_getElem? (i := 3) rfl)
theorem hf53 {P : Prg} [h : HasF P Gk08] : P.fs.lookup 53 = some f53 := h.h _ (List.mem_of_getElem? (i := 4) rfl)
theorem hf54 {P : Prg} [h : HasF P Gk08] : P.fs.lookup 54 = some f54 := h.h _ (List.mem_of_getElem? (i := 5) rfl)
theorem hf55 {P : Prg} [h : HasF P Gk08] : P.fs.lookup 55 = some f55 := h.h _ (List.mem_of_getElem? (i := 6) rfl)
theorem hf56 {P : Prg} [h : HasF P Gk08] : P.fs.lookup 56 = some f56 := h.h _ (List.mem_of_getElem? (i := 7) rfl)
theorem hf57 {P : Prg} [h : HasF P Gk08] : P.fs.lookup 57 = some f57 := h.h _ (List.mem_of_getElem? (i := 8) rfl)
theorem hf58 {P : Prg} [h : HasF P Gk08] : P.fs.lookup 58 = some f58 := h.h _ (List.mem_of_getElem? (i := 9) rfl)
theorem hf59 {P : Prg} [h : HasF P Gk08] : P.fs.lookup 59 = some f59 := h.h _ (List.mem_of_getElem? (i := 10) rfl)
theorem hf60 {P : Prg} [h : HasF P Gk08] : P.fs.lookup 60 = some f60 := h.h _ (List.mem_of_getElem? (i := 11) rfl)
theorem hf61 {P : Prg} [h : HasF P Gk08] : P.fs.lookup 61 = some f61 := h.h _ (List.mem_of_getElem? (i := 12) rfl)
theorem hf62 {P : Prg} [h : HasF P Gk08] : P.fs.lookup 62 = some f62 := h.h _ (List.mem_of_getElem? (i := 13) rfl)
theorem hf63 {P : Prg} [h : HasF P Gk08] : P.fs.lookup 63 = some f63 := h.h _ (List.mem_of_getElem? (i := 14) rfl)
theorem hf64 {P : Prg} [h : HasF P Gk08] : P.fs.lookup 64 = some f64 := h.h _ (List.mem_of_getElem? (i := 15) rfl)
theorem hf65 {P : Prg} [h : HasF P Gk08] : P.fs.lookup 65 = some f65 := h.h _ (List.mem_of_getElem? (i := 16) rfl)
theorem hf66 {P : Prg} [h : HasF P Gk08] : P.fs.lookup 66 = some f66 := h.h _ (List.mem_of_getElem? (i := 17) rfl)
theorem hf67 {P : Prg} [h : HasF P Gk08] : P.fs.lookup 67 = some f67 := h.h _ (List.mem_of_getElem? (i := 18) rfl)
theorem hf68 {P : Prg} [h : HasF P Gk08] : P.fs.lookup 68 = some f68 := h.h _ (List.mem_of_getElem? (i := 19) rfl)
theorem hf69 {P : Prg} [h : HasF P Gk08] : P.fs.lookup 69 = some f69 := h.h _ (List.mem_of_getElem? (i := 20) rfl)
theorem hf70 {P : Prg} [h : HasF P Gk08] : P.fs.lookup 70 = some f70 := h.h _ (List.mem_of_getElem? (i := 21) rfl)
theorem hf71 {P : Prg} [h : HasF P Gk08] : P.fs.lookup 71 = some f71 := h.h _ (List.mem_of_getElem? (i := 22) rfl)
theorem hf72 {P : Prg} [h : HasF P Gk08] : P.fs.lookup 72 = some f72 := h.h _ (List.mem_of_getElem? (i := 23) rfl)
theorem hf73 {P : Prg} [h : HasF P Gk08] : P.fs.lookup 73 = some f73 := h.h _ (List.mem_of_getElem? (i := 24) rfl)
theorem hf74 {P : Prg} [h : HasF P Gk08] : P.fs.lookup 74 = some f74 := h.h _ (List.mem_of_getElem? (i := 25) rfl)
end Wf
set_option Elab.async false
set_option linter.all false
set_option maxRecDepth 100000
set_option maxHeartbeats 4000000
namespace Wf
open PySem L2
/-- row_at, slots: 0 flight 1 since 2 beat 3 turn 4 flyer 5 state 6 way 7 task 8 home -/
def b28 : Ss := (.cons (.asg (.tp (.cons (.nm 4) (.cons (.nm 5) (.cons (.nm 6) (.cons (.nm 7) (.cons (.nm 8) .nil)))))) (.v 0))
    (.cons (.iff (.or_ (.and_ (.cmp .IsNot (.e (.v 3)) (.e (.k D.non))) (.cmp .GtE (.e (.v 2)) (.e (.v 3)))) (.cmp .GtE (.e (.bin .Sub (.v 2) (.v 1))) (.e (.bi .len (.cons (.e (.v 6)) .nil))))) (.cons (.ret (.gl (D.tup [(D.str "home")])))
    .nil) .nil)
    (.cons (.ret (.sub (.e (.v 6)) (.bin .Sub (.v 2) (.v 1))))
    .nil)))
def f28 : Fn := ⟨4, 9, b28⟩
/-- no_further, slots: 0 number 1 reach -/
def b29 : Ss := (.cons (.ret (.bi .max (.cons (.e (.bin .Sub (.k (D.int 0)) (.v 1))) (.cons (.e (.bi .min (.cons (.e (.v 1)) (.cons (.e (.v 0)) .nil)))) .nil))))
    .nil)
def f29 : Fn := ⟨2, 2, b29⟩
/-- middle_of, slots: 0 pad 1 x1 2 y1 3 x2 4 y2 5 many -/
def b30 : Ss := (.cons (.asg (.tp (.cons (.nm 1) (.cons (.nm 2) (.cons (.nm 3) (.cons (.nm 4) (.cons (.nm 5) .nil)))))) (.v 0))
    (.cons (.ret (.tup (.cons (.bin .FloorDiv (.bin .Add (.v 1) (.v 3)) (.k (D.int 2))) (.cons (.bin .FloorDiv (.bin .Add (.v 2) (.v 4)) (.k (D.int 2))) .nil))))
    .nil))
def f30 : Fn := ⟨1, 6, b30⟩
/-- wish_of, slots: 0 land 1 flight 2 row 3 x 4 y 5 flyer 6 state 7 way 8 task 9 home 10 word 11 rest 12 wanted 13 there -/
def b31 : Ss := (.cons (.asg (.tp (.cons (.nm 5) (.cons (.nm 6) (.cons (.nm 7) (.cons (.nm 8) (.cons (.nm 9) .nil)))))) (.v 1))
    (.cons (.asg (.st (.cons (.nm 10) (.cons (.nm 11) .nil)) 1) (.v 2))
    (.cons (.iff (.cmp .Eq (.e (.v 10)) (.e (.gl (D.str "go")))) (.cons (.asg (.nm 12) (.bi .tuple (.cons (.e (.v 11)) .nil)))
    .nil) (.cons (.asg (.nm 13) (.ite (.cmp .Eq (.e (.v 2)) (.e (.gl (D.tup [(D.str "home")])))) (.call 30 (.cons (.sub (.e (.att 0 (.v 0) "pads")) (.v 9)) .nil) .nil [.vi 0]) (.bi .tuple (.cons (.e (.v 11)) .nil))))
    (.cons (.asg (.nm 12) (.tup (.cons (.bin .Sub (.sub (.e (.v 13)) (.k (D.int 0))) (.v 3)) (.cons (.bin .Sub (.sub (.e (.v 13)) (.k (D.int 1))) (.v 4)) .nil))))
    .nil)))
    (.cons (.ret (.tup (.cons (.call 29 (.cons (.sub (.e (.v 12)) (.k (D.int 0))) (.cons (.sub (.e (.v 5)) (.k (D.int 0))) .nil)) .nil [.vi 0, .vi 1]) (.cons (.call 29 (.cons (.sub (.e (.v 12)) (.k (D.int 1))) (.cons (.sub (.e (.v 5)) (.k (D.int 0))) .nil)) .nil [.vi 0, .vi 1]) .nil))))
    .nil))))
def f31 : Fn := ⟨5, 14, b31⟩
/-- lbox, slots: 0 _law_deck_here 1 _law_wide 2 _law_high 3 _law_xs 4 _law_ys -/
def b32 : Ss := (.cons (.asg (.tp (.cons (.nm 3) (.cons (.nm 4) .nil))) (.tup (.cons (.call 16 (.cons (.v 0) (.cons (.v 1) .nil)) .nil [.vi 0, .vi 1]) (.cons (.call 16 (.cons (.v 0) (.cons (.v 2) .nil)) .nil [.vi 0, .vi 1]) .nil))))
    (.cons (.ret (.tup (.cons (.v 3) (.cons (.v 4) (.cons (.bi .min (.cons (.e (.bin .Sub (.v 1) (.k (D.int 1)))) (.cons (.e (.bin .Add (.v 3) (.call 16 (.cons (.v 0) (.cons (.k (D.int 3)) .nil)) .nil [.vi 0, .vi 1]))) .nil))) (.cons (.bi .min (.cons (.e (.bin .Sub (.v 2) (.k (D.int 1)))) (.cons (.e (.bin .Add (.v 4) (.call 16 (.cons (.v 0) (.cons (.k (D.int 3)) .nil)) .nil [.vi 0, .vi 1]))) .nil))) .nil))))))
    .nil))
def f32 : Fn := ⟨3, 5, b32⟩
/-- lroom, slots: 0 _law_deck_here 1 _law_wide 2 _law_high 3 _law_days 4 _law_first -/
def b33 : Ss := (.cons (.asg (.nm 4) (.call 16 (.cons (.v 0) (.cons (.bin .Add (.v 3) (.k (D.int 1))) .nil)) .nil [.vi 0, .vi 1]))
    (.cons (.ret (.bin .Add (.call 32 (.cons (.v 0) (.cons (.v 1) (.cons (.v 2) .nil))) .nil [.vi 0, .vi 1, .vi 2]) (.tup (.cons (.v 4) (.cons (.bi .min (.cons (.e (.v 3)) (.cons (.e (.bin .Add (.v 4) (.call 16 (.cons (.v 0) (.cons (.k (D.int 4)) .nil)) .nil [.vi 0, .vi 1]))) .nil))) .nil)))))
    .nil))
def f33 : Fn := ⟨4, 5, b33⟩
/-- lsizes, slots: 0 _law_deck_here 1 _law_way_here -/
def b34 : Ss := (.cons (.asg (.nm 1) (.call 16 (.cons (.v 0) (.cons (.k (D.int 8)) .nil)) .nil [.vi 0, .vi 1]))
    (.cons (.iff (.cmp .Eq (.e (.v 1)) (.e (.k (D.int 5)))) (.cons (.ret (.tup (.cons (.bin .Add (.k (D.int 10)) (.call 16 (.cons (.v 0) (.cons (.k (D.int 3)) .nil)) .nil [.vi 0, .vi 1])) (.cons (.bin .Add (.k (D.int 1)) (.call 16 (.cons (.v 0) (.cons (.k (D.int 2)) .nil)) .nil [.vi 0, .vi 1])) (.cons (.bin .Add (.k (D.int 2)) (.call 16 (.cons (.v 0) (.cons (.k (D.int 3)) .nil)) .nil [.vi 0, .vi 1])) .nil)))))
    .nil) .nil)
    (.cons (.iff (.cmp .Eq (.e (.v 1)) (.e (.k (D.int 6)))) (.cons (.ret (.tup (.cons (.bin .Add (.k (D.int 1)) (.call 16 (.cons (.v 0) (.cons (.k (D.int 2)) .nil)) .nil [.vi 0, .vi 1])) (.cons (.bin .Add (.k (D.int 10)) (.call 16 (.cons (.v 0) (.cons (.k (D.int 3)) .nil)) .nil [.vi 0, .vi 1])) (.cons (.bin .Add (.k (D.int 2)) (.call 16 (.cons (.v 0) (.cons (.k (D.int 3)) .nil)) .nil [.vi 0, .vi 1])) .nil)))))
    .nil) .nil)
    (.cons (.ret (.tup (.cons (.bin .Add (.k (D.int 3)) (.call 16 (.cons (.v 0) (.cons (.k (D.int 3)) .nil)) .nil [.vi 0, .vi 1])) (.cons (.bin .Add (.k (D.int 3)) (.call 16 (.cons (.v 0) (.cons (.k (D.int 3)) .nil)) .nil [.vi 0, .vi 1])) (.cons (.bin .Add (.k (D.int 2)) (.call 16 (.cons (.v 0) (.cons (.k (D.int 5)) .nil)) .nil [.vi 0, .vi 1])) .nil)))))
    .nil))))
def f34 : Fn := ⟨1, 2, b34⟩
/-- lheights, slots: 0 _law_deck_here 1 _law_wide 2 _law_high 3 _law_way_here 4 _law_rows 5 _law_ys 6 _law_xs -/
def b35 : Ss := (.cons (.asg (.nm 3) (.call 16 (.cons (.v 0) (.cons (.k (D.int 3)) .nil)) .nil [.vi 0, .vi 1]))
    (.cons (.iff (.cmp .Eq (.e (.v 3)) (.e (.k (D.int 0)))) (.cons (.ret (.k D.non))
    .nil) .nil)
    (.cons (.own 4 (.lst .nil))
    (.cons (.fr (.nm 5) (.rng1 (.v 2)) (.cons (.apS 4 (.bi .tuple (.cons (.e (.lc [6] (.nm 6) (.rng1 (.v 1)) .none (.ite (.and_ (.cmp .Eq (.e (.v 3)) (.e (.k (D.int 2)))) (.cmp .Eq (.e (.call 16 (.cons (.v 0) (.cons (.k (D.int 5)) .nil)) .nil [.vi 0, .vi 1])) (.e (.k (D.int 0))))) (.call 16 (.cons (.v 0) (.cons (.k (D.int 10)) .nil)) .nil [.vi 0, .vi 1]) (.k (D.int 3))))) .nil)))
    .nil))
    (.cons (.ret (.bi .tuple (.cons (.pk 4) .nil)))
    .nil)))))
def f35 : Fn := ⟨3, 7, b35⟩
/-- lpads, slots: 0 _law_deck_here 1 _law_wide 2 _law_high 3 _law_first 4 _law_found 5 _law_other 6 _law_apart_here -/
def b36 : Ss := (.cons (.asg (.nm 3) (.call 32 (.cons (.v 0) (.cons (.v 1) (.cons (.v 2) .nil))) .nil [.vi 0, .vi 1, .vi 2]))
    (.cons (.own 4 (.lst (.cons (.bin .Add (.v 3) (.tup (.cons (.bin .Add (.k (D.int 1)) (.call 16 (.cons (.v 0) (.cons (.k (D.int 4)) .nil)) .nil [.vi 0, .vi 1])) .nil))) .nil)))
    (.cons (.asg (.nm 5) (.call 32 (.cons (.v 0) (.cons (.v 1) (.cons (.v 2) .nil))) .nil [.vi 0, .vi 1, .vi 2]))
    (.cons (.asg (.nm 6) (.or_ (.cmp .Lt (.e (.sub (.e (.v 5)) (.k (D.int 2)))) (.e (.sub (.e (.v 3)) (.k (D.int 0))))) (.or_ (.cmp .Lt (.e (.sub (.e (.v 3)) (.k (D.int 2)))) (.e (.sub (.e (.v 5)) (.k (D.int 0))))) (.or_ (.cmp .Lt (.e (.sub (.e (.v 5)) (.k (D.int 3)))) (.e (.sub (.e (.v 3)) (.k (D.int 1))))) (.cmp .Lt (.e (.sub (.e (.v 3)) (.k (D.int 3)))) (.e (.sub (.e (.v 5)) (.k (D.int 1)))))))))
    (.cons (.iff (.v 6) (.cons (.apS 4 (.bin .Add (.v 5) (.tup (.cons (.bin .Add (.k (D.int 1)) (.call 16 (.cons (.v 0) (.cons (.k (D.int 4)) .nil)) .nil [.vi 0, .vi 1])) .nil))))
    .nil) .nil)
    (.cons (.ret (.bi .tuple (.cons (.pk 4) .nil)))
    .nil))))))
def f36 : Fn := ⟨3, 7, b36⟩
/-- lfields_2, slots: 0 _law_deck_here 1 _law_heavy 2 _law_wide 3 _law_high 4 _law_days 5 _law_some 6 _law_k -/
def b37 : Ss := (.cons (.asg (.tp (.cons (.nm 2) (.cons (.nm 3) (.cons (.nm 4) .nil)))) (.call 34 (.cons (.v 0) .nil) .nil [.vi 0]))
    (.cons (.own 5 (.dsp (.cons (.k (D.str "wide")) (.v 2) (.cons (.k (D.str "high")) (.v 3) (.cons (.k (D.str "day")) (.v 4) (.cons (.k (D.str "heights")) (.call 35 (.cons (.v 0) (.cons (.v 2) (.cons (.v 3) .nil))) .nil [.vi 0, .vi 1, .vi 2]) .nil))))))
    (.cons (.pst 5 (.k (D.str "barred")) (.bi .tuple (.cons (.e (.lc [6] (.nm 6) (.rng1 (.call 16 (.cons (.v 0) (.cons (.bin .Add (.v 1) (.k (D.int 1))) .nil)) .nil [.vi 0, .vi 1])) .none (.call 33 (.cons (.v 0) (.cons (.v 2) (.cons (.v 3) (.cons (.v 4) .nil)))) .nil [.vi 0, .vi 1, .vi 2, .vi 3]))) .nil)))
    (.cons (.pst 5 (.k (D.str "people")) (.bi .tuple (.cons (.e (.lc [6] (.nm 6) (.rng1 (.call 16 (.cons (.v 0) (.cons (.bin .Add (.v 1) (.k (D.int 1))) .nil)) .nil [.vi 0, .vi 1])) .none (.call 33 (.cons (.v 0) (.cons (.v 2) (.cons (.v 3) (.cons (.v 4) .nil)))) .nil [.vi 0, .vi 1, .vi 2, .vi 3]))) .nil)))
    (.cons (.pst 5 (.k (D.str "pads")) (.call 36 (.cons (.v 0) (.cons (.v 2) (.cons (.v 3) .nil))) .nil [.vi 0, .vi 1, .vi 2]))
    (.cons (.frz 5)
    (.cons (.ret (.v 5))
    .nil)))))))
def f37 : Fn := ⟨2, 7, b37⟩
/-- ltask, slots: 0 _law_deck_here 1 _law_fields_here 2 _law_wide 3 _law_high 4 _law_days 5 _law_way_here 6 _law_box_here 7 _law_other 8 _law_first 9 _law_last_here 10 _law_some -/
def b38 : Ss := (.cons (.asg (.tp (.cons (.nm 2) (.cons (.nm 3) (.cons (.nm 4) .nil)))) (.tup (.cons (.sub (.e (.v 1)) (.k (D.str "wide"))) (.cons (.sub (.e (.v 1)) (.k (D.str "high"))) (.cons (.sub (.e (.v 1)) (.k (D.str "day"))) .nil)))))
    (.cons (.asg (.tp (.cons (.nm 5) (.cons (.nm 6) (.cons (.nm 7) .nil)))) (.tup (.cons (.call 16 (.cons (.v 0) (.cons (.k (D.int 5)) .nil)) .nil [.vi 0, .vi 1]) (.cons (.call 32 (.cons (.v 0) (.cons (.v 2) (.cons (.v 3) .nil))) .nil [.vi 0, .vi 1, .vi 2]) (.cons (.call 32 (.cons (.v 0) (.cons (.v 2) (.cons (.v 3) .nil))) .nil [.vi 0, .vi 1, .vi 2]) .nil)))))
    (.cons (.asg (.nm 8) (.call 16 (.cons (.v 0) (.cons (.bin .Add (.v 4) (.k (D.int 1))) .nil)) .nil [.vi 0, .vi 1]))
    (.cons (.asg (.nm 9) (.bi .min (.cons (.e (.v 4)) (.cons (.e (.bin .Add (.v 8) (.call 16 (.cons (.v 0) (.cons (.bin .Add (.v 4) (.k (D.int 1))) .nil)) .nil [.vi 0, .vi 1]))) .nil))))
    (.cons (.asg (.nm 10) (.lst (.cons (.k D.non) (.cons (.tup (.cons (.k (D.str "look")) (.cons (.v 6) (.cons (.v 8) (.cons (.v 9) .nil))))) (.cons (.tup (.cons (.k (D.str "bring")) (.cons (.v 6) (.cons (.v 7) (.cons (.call 16 (.cons (.v 0) (.cons (.k (D.int 10)) .nil)) .nil [.vi 0, .vi 1]) (.cons (.v 8) (.cons (.v 9) .nil))))))) .nil)))))
    (.cons (.ret (.sub (.e (.bin .Add (.v 10) (.lst (.cons (.tup (.cons (.k (D.str "over")) (.cons (.v 6) (.cons (.bin .Add (.k (D.int 1)) (.call 16 (.cons (.v 0) (.cons (.k (D.int 3)) .nil)) .nil [.vi 0, .vi 1])) (.cons (.v 8) (.cons (.v 9) .nil)))))) (.cons (.tup (.cons (.k (D.str "look")) (.cons (.v 6) (.cons (.k (D.int 0)) (.cons (.v 4) .nil))))) .nil))))) (.v 5)))
    .nil))))))
def f38 : Fn := ⟨2, 11, b38⟩
/-- llast, slots: 0 _law_task_here -/
def b39 : Ss := (.cons (.iff (.cmp .Is (.e (.v 0)) (.e (.k D.non))) (.cons (.ret (.k (D.int 0)))
    .nil) .nil)
    (.cons (.ret (.ite (.cmp .NotEq (.e (.sub (.e (.v 0)) (.k (D.int 0)))) (.e (.k (D.str "over")))) (.sub (.e (.dsp (.cons (.k (D.str "look")) (.k (D.int 1)) (.cons (.k (D.str "bring")) (.k (D.int 2)) .nil)))) (.sub (.e (.v 0)) (.k (D.int 0)))) (.sub (.e (.v 0)) (.k (D.int 2)))))
    .nil))
def f39 : Fn := ⟨1, 1, b39⟩
/-- lway, slots: 0 _law_deck_here 1 _law_fields_here 2 _law_many 3 _law_found 4 _law_k 5 _law_word -/
def b40 : Ss := (.cons (.own 3 (.lst .nil))
    (.cons (.fr (.nm 4) (.rng1 (.call 16 (.cons (.v 0) (.cons (.bin .Add (.v 2) (.k (D.int 1))) .nil)) .nil [.vi 0, .vi 1])) (.cons (.asg (.nm 5) (.call 17 (.cons (.v 0) (.cons (.lst (.cons (.k (D.str "aim")) (.cons (.k (D.str "aim")) (.cons (.k (D.str "aim")) (.cons (.k (D.str "go")) (.cons (.k (D.str "stand")) (.cons (.k (D.str "home")) .nil))))))) .nil)) .nil [.vi 0, .vi 1]))
    (.cons (.iff (.cmp .Eq (.e (.v 5)) (.e (.k (D.str "aim")))) (.cons (.apS 3 (.tup (.cons (.v 5) (.cons (.call 16 (.cons (.v 0) (.cons (.sub (.e (.v 1)) (.k (D.str "wide"))) .nil)) .nil [.vi 0, .vi 1]) (.cons (.call 16 (.cons (.v 0) (.cons (.sub (.e (.v 1)) (.k (D.str "high"))) .nil)) .nil [.vi 0, .vi 1]) .nil)))))
    .nil) (.cons (.iff (.cmp .Eq (.e (.v 5)) (.e (.k (D.str "go")))) (.cons (.apS 3 (.tup (.cons (.v 5) (.cons (.bin .Sub (.call 16 (.cons (.v 0) (.cons (.k (D.int 5)) .nil)) .nil [.vi 0, .vi 1]) (.k (D.int 2))) (.cons (.bin .Sub (.call 16 (.cons (.v 0) (.cons (.k (D.int 5)) .nil)) .nil [.vi 0, .vi 1]) (.k (D.int 2))) .nil)))))
    .nil) (.cons (.apS 3 (.tup (.cons (.v 5) .nil)))
    .nil))
    .nil))
    .nil)))
    (.cons (.ret (.bi .tuple (.cons (.pk 3) .nil)))
    .nil)))
def f40 : Fn := ⟨3, 6, b40⟩
/-- lflight, slots: 0 _law_deck_here 1 _law_fields_here 2 _law_mild 3 _law_pads_here 4 _law_task_here 5 _law_home 6 _law_flyer 7 _law_xs 8 _law_ys 9 _law_charge 10 _law_own_way 11 _law_step 12 _law_own_row -/
def b41 : Ss := (.cons (.asg (.tp (.cons (.nm 3) (.cons (.nm 4) .nil))) (.tup (.cons (.sub (.e (.v 1)) (.k (D.str "pads"))) (.cons (.call 38 (.cons (.v 0) (.cons (.v 1) .nil)) .nil [.vi 0, .vi 1]) .nil))))
    (.cons (.asg (.nm 5) (.call 16 (.cons (.v 0) (.cons (.bi .len (.cons (.e (.v 3)) .nil)) .nil)) .nil [.vi 0, .vi 1]))
    (.cons (.asg (.nm 6) (.tup (.cons (.call 16 (.cons (.v 0) (.cons (.k (D.int 3)) .nil)) .nil [.vi 0, .vi 1]) (.cons (.call 16 (.cons (.v 0) (.cons (.k (D.int 10)) .nil)) .nil [.vi 0, .vi 1]) (.cons (.bin .Add (.k (D.int 1)) (.call 16 (.cons (.v 0) (.cons (.k (D.int 99)) .nil)) .nil [.vi 0, .vi 1])) (.cons (.bin .Add (.k (D.int 1)) (.call 16 (.cons (.v 0) (.cons (.k (D.int 9)) .nil)) .nil [.vi 0, .vi 1])) .nil))))))
    (.cons (.asg (.tp (.cons (.nm 7) (.cons (.nm 8) .nil))) (.tup (.cons (.call 16 (.cons (.v 0) (.cons (.sub (.e (.v 1)) (.k (D.str "wide"))) .nil)) .nil [.vi 0, .vi 1]) (.cons (.call 16 (.cons (.v 0) (.cons (.sub (.e (.v 1)) (.k (D.str "high"))) .nil)) .nil [.vi 0, .vi 1]) .nil))))
    (.cons (.asg (.tp (.cons (.nm 9) (.cons (.nm 10) .nil))) (.tup (.cons (.call 16 (.cons (.v 0) (.cons (.bin .Add (.sub (.e (.v 6)) (.k (D.int 2))) (.k (D.int 1))) .nil)) .nil [.vi 0, .vi 1]) (.cons (.call 40 (.cons (.v 0) (.cons (.v 1) (.cons (.sub (.e (.v 1)) (.k (D.str "day"))) .nil))) .nil [.vi 0, .vi 1, .vi 2]) .nil))))
    (.cons (.iff (.v 2) (.cons (.asg (.nm 6) (.tup (.cons (.bin .Add (.k (D.int 1)) (.bi .int (.cons (.e (.cmp .Gt (.e (.sub (.e (.v 6)) (.k (D.int 0)))) (.e (.k (D.int 0))))) .nil))) (.cons (.k (D.int 9)) (.cons (.k (D.int 99)) (.cons (.sub (.e (.v 6)) (.k (D.int 3))) .nil))))))
    (.cons (.asg (.tp (.cons (.nm 7) (.cons (.nm 8) .nil))) (.tup (.cons (.sub (.e (.sub (.e (.v 3)) (.v 5))) (.k (D.int 0))) (.cons (.sub (.e (.sub (.e (.v 3)) (.v 5))) (.k (D.int 1))) .nil))))
    (.cons (.asg (.nm 9) (.bin .Add (.k (D.int 60)) (.bin .Mod (.v 9) (.k (D.int 40)))))
    (.cons (.asg (.nm 10) (.bi .tuple (.cons (.e (.lc [12] (.nm 12) (.seq (.v 10)) (.some (.cmp .NotEq (.e (.sub (.e (.v 12)) (.k (D.int 0)))) (.e (.k (D.str "stand"))))) (.v 12))) .nil)))
    .nil)))) .nil)
    (.cons (.asg (.nm 11) (.ite (.v 2) (.k (D.int 0)) (.call 16 (.cons (.v 0) (.cons (.bin .Add (.call 39 (.cons (.v 4) .nil) .nil [.vi 0]) (.k (D.int 1))) .nil)) .nil [.vi 0, .vi 1])))
    (.cons (.ret (.tup (.cons (.v 6) (.cons (.tup (.cons (.v 7) (.cons (.v 8) (.cons (.v 11) (.cons (.v 9) .nil))))) (.cons (.v 10) (.cons (.v 4) (.cons (.v 5) .nil)))))))
    .nil))))))))
def f41 : Fn := ⟨3, 13, b41⟩
/-- lrow, slots: 0 _law_ours 1 _law_start 2 _law_clock 3 _law_turned 4 _law_k -/
def b42 : Ss := (.cons (.asg (.nm 4) (.bin .Sub (.v 2) (.v 1)))
    (.cons (.iff (.or_ (.and_ (.cmp .IsNot (.e (.v 3)) (.e (.k D.non))) (.cmp .GtE (.e (.v 2)) (.e (.v 3)))) (.cmp .GtE (.e (.v 4)) (.e (.bi .len (.cons (.e (.sub (.e (.v 0)) (.k (D.int 2)))) .nil))))) (.cons (.ret (.tup (.cons (.k (D.str "home")) .nil)))
    .nil) .nil)
    (.cons (.ret (.sub (.e (.sub (.e (.v 0)) (.k (D.int 2)))) (.v 4)))
    .nil)))
def f42 : Fn := ⟨4, 5, b42⟩
/-- lwish, slots: 0 _law_fields_here 1 _law_ours 2 _law_own_row 3 _law_xs 4 _law_ys 5 _law_reach 6 _law_a 7 _law_b 8 _law_c 9 _law_d 10 _law_many 11 _law_wants 12 _law_one -/
def b43 : Ss := (.cons (.asg (.nm 5) (.sub (.e (.sub (.e (.v 1)) (.k (D.int 0)))) (.k (D.int 0))))
    (.cons (.iff (.cmp .Eq (.e (.sub (.e (.v 2)) (.k (D.int 0)))) (.e (.k (D.str "home")))) (.cons (.asg (.tp (.cons (.nm 6) (.cons (.nm 7) (.cons (.nm 8) (.cons (.nm 9) (.cons (.nm 10) .nil)))))) (.sub (.e (.sub (.e (.v 0)) (.k (D.str "pads")))) (.sub (.e (.v 1)) (.k (D.int 4)))))
    (.cons (.asg (.nm 11) (.tup (.cons (.bin .Sub (.bin .FloorDiv (.bin .Add (.v 6) (.v 8)) (.k (D.int 2))) (.v 3)) (.cons (.bin .Sub (.bin .FloorDiv (.bin .Add (.v 7) (.v 9)) (.k (D.int 2))) (.v 4)) .nil))))
    .nil)) (.cons (.asg (.nm 11) (.ite (.cmp .Eq (.e (.sub (.e (.v 2)) (.k (D.int 0)))) (.e (.k (D.str "go")))) (.tup (.cons (.sub (.e (.v 2)) (.k (D.int 1))) (.cons (.sub (.e (.v 2)) (.k (D.int 2))) .nil))) (.tup (.cons (.bin .Sub (.sub (.e (.v 2)) (.k (D.int 1))) (.v 3)) (.cons (.bin .Sub (.sub (.e (.v 2)) (.k (D.int 2))) (.v 4)) .nil)))))
    .nil))
    (.cons (.ret (.bi .tuple (.cons (.e (.lc [12] (.nm 12) (.seq (.v 11)) .none (.bi .max (.cons (.e (.bin .Sub (.k (D.int 0)) (.v 5))) (.cons (.e (.bi .min (.cons (.e (.v 5)) (.cons (.e (.v 12)) .nil)))) .nil))))) .nil)))
    .nil)))
def f43 : Fn := ⟨5, 13, b43⟩
/-- lmade, slots: 0 _law_fields_here 1 _law_own -/
def b44 : Ss := (.cons (.asg (.nm 1) (.mk 0 11 (.cons (.sub (.e (.v 0)) (.k (D.str "wide"))) (.cons (.sub (.e (.v 0)) (.k (D.str "high"))) .nil)) (.cons (.sub (.e (.v 0)) (.k (D.str "day"))) (.cons (.sub (.e (.v 0)) (.k (D.str "heights"))) (.cons (.sub (.e (.v 0)) (.k (D.str "barred"))) (.cons (.sub (.e (.v 0)) (.k (D.str "people"))) (.cons (.sub (.e (.v 0)) (.k (D.str "pads"))) .nil))))) [.vi 0, .vi 1, .vi 2, .vi 3, .vi 4, .vi 5, .vi 6, .vi 7]))
    (.cons (.ret (.v 1))
    .nil))
def f44 : Fn := ⟨1, 2, b44⟩
/-- lrows_right, slots: 0 _law_own_flight 1 _law_start 2 _law_days 3 _law_clock 4 _law_due 5 _law_found 6 _law_at -/
def b45 : Ss := (.cons (.fr (.nm 3) (.rng2 (.v 1) (.v 2)) (.cons (.asg (.nm 4) (.call 42 (.cons (.v 0) (.cons (.v 1) (.cons (.v 3) (.cons (.k D.non) .nil)))) .nil [.vi 0, .vi 1, .vi 2, .vi 3]))
    (.cons (.asg (.nm 5) (.lst (.cons (.call 28 (.cons (.v 0) (.cons (.v 1) (.cons (.v 3) .nil))) .nil [.vi 0, .vi 1, .vi 2, .dv D.non]) (.cons (.call 28 .nil (.cons (.v 3) (.cons (.v 0) (.cons (.v 1) (.cons (.k D.non) .nil)))) [.vi 1, .vi 2, .vi 0, .vi 3]) .nil))))
    (.cons (.iff (.cmp .NotEq (.e (.bi .repr (.cons (.e (.v 5)) .nil))) (.e (.bi .repr (.cons (.e (.lst (.cons (.v 4) (.cons (.v 4) .nil)))) .nil)))) (.cons (.ret (.k (D.bl false)))
    .nil) .nil)
    (.cons (.fr (.nm 6) (.rng2 (.v 1) (.bin .Add (.v 2) (.k (D.int 1)))) (.cons (.asg (.nm 4) (.call 42 (.cons (.v 0) (.cons (.v 1) (.cons (.v 3) (.cons (.v 6) .nil)))) .nil [.vi 0, .vi 1, .vi 2, .vi 3]))
    (.cons (.iff (.cmp .NotEq (.e (.bi .repr (.cons (.e (.call 28 (.cons (.v 0) (.cons (.v 1) (.cons (.v 3) .nil))) (.cons (.v 6) .nil) [.vi 0, .vi 1, .vi 2, .vi 3])) .nil))) (.e (.bi .repr (.cons (.e (.v 4)) .nil)))) (.cons (.ret (.k (D.bl false)))
    .nil) .nil)
    .nil)))
    .nil)))))
    (.cons (.ret (.k (D.bl true)))
    .nil))
def f45 : Fn := ⟨3, 7, b45⟩
/-- lsome_rows, slots: 0 _law_deck_here 1 _law_fields_here 2 _law_found -/
def b46 : Ss := (.cons (.own 2 (.lst (.cons (.tup (.cons (.k (D.str "go")) (.cons (.k (D.int 2)) (.cons (.neg (.k (D.int 2))) .nil)))) (.cons (.tup (.cons (.k (D.str "go")) (.cons (.neg (.k (D.int 2))) (.cons (.k (D.int 2)) .nil)))) (.cons (.tup (.cons (.k (D.str "go")) (.cons (.k (D.int 0)) (.cons (.k (D.int 1)) .nil)))) (.cons (.tup (.cons (.k (D.str "home")) .nil)) (.cons (.tup (.cons (.k (D.str "aim")) (.cons (.k (D.int 11)) (.cons (.k (D.int 11)) .nil)))) (.cons (.tup (.cons (.k (D.str "aim")) (.cons (.k (D.int 0)) (.cons (.k (D.int 0)) .nil)))) .nil))))))))
    (.cons (.apS 2 (.tup (.cons (.k (D.str "go")) (.cons (.bin .Sub (.call 16 (.cons (.v 0) (.cons (.k (D.int 5)) .nil)) .nil [.vi 0, .vi 1]) (.k (D.int 2))) (.cons (.bin .Sub (.call 16 (.cons (.v 0) (.cons (.k (D.int 5)) .nil)) .nil [.vi 0, .vi 1]) (.k (D.int 2))) .nil)))))
    (.cons (.apS 2 (.tup (.cons (.k (D.str "aim")) (.cons (.call 16 (.cons (.v 0) (.cons (.k (D.int 12)) .nil)) .nil [.vi 0, .vi 1]) (.cons (.call 16 (.cons (.v 0) (.cons (.k (D.int 12)) .nil)) .nil [.vi 0, .vi 1]) .nil)))))
    (.cons (.frz 2)
    (.cons (.ret (.bin .Add (.v 2) (.lst (.cons (.tup (.cons (.k (D.str "aim")) (.cons (.bin .Sub (.sub (.e (.v 1)) (.k (D.str "wide"))) (.k (D.int 1))) (.cons (.call 16 (.cons (.v 0) (.cons (.sub (.e (.v 1)) (.k (D.str "high"))) .nil)) .nil [.vi 0, .vi 1]) .nil)))) .nil))))
    .nil)))))
def f46 : Fn := ⟨2, 3, b46⟩
/-- lwishes_right, slots: 0 _law_own_land 1 _law_fields_here 2 _law_own_flight 3 _law_some 4 _law_own_row 5 _law_named 6 _law_xs 7 _law_ys 8 _law_due 9 _law_found -/
def b47 : Ss := (.cons (.fr (.nm 4) (.seq (.v 3)) (.cons (.fr (.nm 6) (.rng1 (.sub (.e (.v 1)) (.k (D.str "wide")))) (.cons (.fr (.nm 7) (.rng1 (.sub (.e (.v 1)) (.k (D.str "high")))) (.cons (.asg (.nm 8) (.call 43 (.cons (.v 1) (.cons (.v 2) (.cons (.v 4) (.cons (.v 6) (.cons (.v 7) .nil))))) .nil [.vi 0, .vi 1, .vi 2, .vi 3, .vi 4]))
    (.cons (.asg (.nm 9) (.call 31 (.cons (.v 0) (.cons (.v 2) (.cons (.v 4) (.cons (.v 6) (.cons (.v 7) .nil))))) .nil [.vi 0, .vi 1, .vi 2, .vi 3, .vi 4]))
    (.cons (.iff (.cmp .NotEq (.e (.bi .repr (.cons (.e (.v 9)) .nil))) (.e (.bi .repr (.cons (.e (.v 8)) .nil)))) (.cons (.ret (.k (D.bl false)))
    .nil) .nil)
    .nil))))
    .nil))
    .nil))
    (.cons (.asg (.nm 5) (.call 31 .nil (.cons (.sub (.e (.v 3)) (.k (D.int 0))) (.cons (.k (D.int 0)) (.cons (.k (D.int 0)) (.cons (.v 2) (.cons (.v 0) .nil))))) [.vi 4, .vi 3, .vi 0, .vi 2, .vi 1]))
    (.cons (.ret (.cmp .Eq (.e (.bi .repr (.cons (.e (.v 5)) .nil))) (.e (.bi .repr (.cons (.e (.call 43 (.cons (.v 1) (.cons (.v 2) (.cons (.sub (.e (.v 3)) (.k (D.int 0))) (.cons (.k (D.int 0)) (.cons (.k (D.int 0)) .nil))))) .nil [.vi 0, .vi 1, .vi 2, .vi 3, .vi 4])) .nil)))))
    .nil)))
def f47 : Fn := ⟨4, 10, b47⟩
/-- law_2, slots: 0 _law_script 1 _law_deck_here 2 _law_k 3 _law_fields_here 4 _law_own_land 5 _law_own_flight 6 _law_start 7 _law_kept -/
def b48 : Ss := (.cons (.asg (.nm 1) (.call 15 (.cons (.v 0) .nil) .nil [.vi 0]))
    (.cons (.fr (.nm 2) (.rng1 (.k (D.int 2))) (.cons (.asg (.nm 3) (.call 37 (.cons (.v 1) (.cons (.k (D.int 1)) .nil)) .nil [.vi 0, .vi 1]))
    (.cons (.asg (.tp (.cons (.nm 4) (.cons (.nm 5) .nil))) (.tup (.cons (.call 44 (.cons (.v 3) .nil) .nil [.vi 0]) (.cons (.call 41 (.cons (.v 1) (.cons (.v 3) (.cons (.cmp .Eq (.e (.call 16 (.cons (.v 1) (.cons (.k (D.int 4)) .nil)) .nil [.vi 0, .vi 1])) (.e (.k (D.int 0)))) .nil))) .nil [.vi 0, .vi 1, .vi 2]) .nil))))
    (.cons (.asg (.tp (.cons (.nm 6) (.cons (.nm 7) .nil))) (.tup (.cons (.call 16 (.cons (.v 1) (.cons (.bin .Add (.sub (.e (.v 3)) (.k (D.str "day"))) (.k (D.int 1))) .nil)) .nil [.vi 0, .vi 1]) (.cons (.bi .repr (.cons (.e (.v 5)) .nil)) .nil))))
    (.cons (.iff (.nt (.call 45 (.cons (.v 5) (.cons (.v 6) (.cons (.sub (.e (.v 3)) (.k (D.str "day"))) .nil))) .nil [.vi 0, .vi 1, .vi 2])) (.cons (.ret (.k (D.bl false)))
    .nil) .nil)
    (.cons (.iff (.nt (.call 47 (.cons (.v 4) (.cons (.v 3) (.cons (.v 5) (.cons (.call 46 (.cons (.v 1) (.cons (.v 3) .nil)) .nil [.vi 0, .vi 1]) .nil)))) .nil [.vi 0, .vi 1, .vi 2, .vi 3])) (.cons (.ret (.k (D.bl false)))
    .nil) .nil)
    (.cons (.iff (.cmp .NotEq (.e (.bi .repr (.cons (.e (.v 5)) .nil))) (.e (.v 7))) (.cons (.ret (.k (D.bl false)))
    .nil) .nil)
    .nil)))))))
    (.cons (.ret (.k (D.bl true)))
    .nil)))
def f48 : Fn := ⟨1, 8, b48⟩
def Gk07 : List (Nat × Fn) := [(28, f28), (29, f29), (30, f30), (31, f31), (32, f32), (33, f33), (34, f34), (35, f35), (36, f36), (37, f37), (38, f38), (39, f39), (40, f40), (41, f41), (42, f42), (43, f43), (44, f44), (45, f45), (46, f46), (47, f47), (48, f48)]
theorem hf28 {P : Prg} [h : HasF P Gk07] : P.fs.lookup 28 = some f28 := h.h _ (List.mem_of_getElem? (i := 0) rfl)
theorem hf29 {P : Prg} [h : HasF P Gk07] : P.fs.lookup 29 = some f29 := h.h _ (List.mem_of_getElem? (i := 1) rfl)
theorem hf30 {P : Prg} [h : HasF P Gk07] : P.fs.lookup 30 = some f30 := h.h _ (List.mem_of_getElem? (i := 2) rfl)
theorem hf31 {P : Prg} [h : HasF P Gk07] : P.fs.lookup 31 = some f31 := h.h _ (List.mem_of_getElem? (i := 3) rfl)
theorem hf32 {P : Prg} [h : HasF P Gk07] : P.fs.lookup 32 = some f32 := h.h _ (List.mem_of_getElem? (i := 4) rfl)
theorem hf33 {P : Prg} [h : HasF P Gk07] : P.fs.lookup 33 = some f33 := h.h _ (List.mem_of_getElem? (i := 5) rfl)
theorem hf34 {P : Prg} [h : HasF P Gk07] : P.fs.lookup 34 = some f34 := h.h _ (List.mem_of_getElem? (i := 6) rfl)
theorem hf35 {P : Prg} [h : HasF P Gk07] : P.fs.lookup 35 = some f35 := h.h _ (List.mem_of_getElem? (i := 7) rfl)
theorem hf36 {P : Prg} [h : HasF P Gk07] : P.fs.lookup 36 = some f36 := h.h _ (List.mem_of_getElem? (i := 8) rfl)
theorem hf37 {P : Prg} [h : HasF P Gk07] : P.fs.lookup 37 = some f37 := h.h _ (List.mem_of_getElem? (i := 9) rfl)
theorem hf38 {P : Prg} [h : HasF P Gk07] : P.fs.lookup 38 = some f38 := h.h _ (List.mem_of_getElem? (i := 10) rfl)
theorem hf39 {P : Prg} [h : HasF P Gk07] : P.fs.lookup 39 = some f39 := h.h _ (List.mem_of_getElem? (i := 11) rfl)
theorem hf40 {P : Prg} [h : HasF P Gk07] : P.fs.lookup 40 = some f40 := h.h _ (List.mem_of_getElem? (i := 12) rfl)
theorem hf41 {P : Prg} [h : HasF P Gk07] : P.fs.lookup 41 = some f41 := h.h _ (List.mem_of_getElem? (i := 13) rfl)
theorem hf42 {P : Prg} [h : HasF P Gk07] : P.fs.lookup 42 = some f42 := h.h _ (List.mem_of_getElem? (i := 14) rfl)
theorem hf43 {P : Prg} [h : HasF P Gk07] : P.fs.lookup 43 = some f43 := h.h _ (List.mem_of_getElem? (i := 15) rfl)
theorem hf44 {P : Prg} [h : HasF P Gk07] : P.fs.lookup 44 = some f44 := h.h _ (List.mem_of_getElem? (i := 16) rfl)
theorem hf45 {P : Prg} [h : HasF P Gk07] : P.fs.lookup 45 = some f45 := h.h _ (List.mem_of_getElem? (i := 17) rfl)
theorem hf46 {P : Prg} [h : HasF P Gk07] : P.fs.lookup 46 = some f46 := h.h _ (List.mem_of_getElem? (i := 18) rfl)
theorem hf47 {P : Prg} [h : HasF P Gk07] : P.fs.lookup 47 = some f47 := h.h _ (List.mem_of_getElem? (i := 19) rfl)
theorem hf48 {P : Prg} [h : HasF P Gk07] : P.fs.lookup 48 = some f48 := h.h _ (List.mem_of_getElem? (i := 20) rfl)
end Wf
set_option Elab.async false
set_option linter.all false
set_option maxRecDepth 100000
set_option maxHeartbeats 4000000
namespace Wf
open PySem L2
/-- let_by_bounds, slots: 0 bounds 1 left 2 right 3 low 4 top 5 wx 6 wy -/
def b75 : Ss := (.cons (.asg (.tp (.cons (.nm 1) (.cons (.nm 2) (.cons (.nm 3) (.cons (.nm 4) .nil))))) (.v 0))
    (.cons (.ret (.bi .tuple (.cons (.e (.lc2 [5, 6] [6] (.nm 5) (.rng2 (.v 1) (.bin .Add (.v 2) (.k (D.int 1)))) .none (.nm 6) (.rng2 (.v 3) (.bin .Add (.v 4) (.k (D.int 1)))) .none (.tup (.cons (.v 5) (.cons (.v 6) .nil))))) .nil)))
    .nil))
def f75 : Fn := ⟨1, 7, b75⟩
/-- winds_at, slots: 0 winds 1 x 2 y 3 beat 4 room 5 bounds -/
def b76 : Ss := (.cons (.fr (.tp (.cons (.nm 4) (.cons (.nm 5) .nil))) (.seq (.v 0)) (.cons (.iff (.call 50 (.cons (.v 4) (.cons (.v 1) (.cons (.v 2) (.cons (.v 3) .nil)))) .nil [.vi 0, .vi 1, .vi 2, .vi 3]) (.cons (.ret (.call 75 (.cons (.v 5) .nil) .nil [.vi 0]))
    .nil) .nil)
    .nil))
    (.cons (.ret (.tup (.cons (.tup (.cons (.k (D.int 0)) (.cons (.k (D.int 0)) .nil))) .nil)))
    .nil))
def f76 : Fn := ⟨4, 6, b76⟩
/-- is_home, slots: 0 land 1 flight 2 state -/
def b77 : Ss := (.cons (.ret (.cmp .Eq (.e (.meth 0 54 "pad_at" (.v 0) (.cons (.sub (.e (.v 2)) (.k (D.int 0))) (.cons (.sub (.e (.v 2)) (.k (D.int 1))) .nil)) .nil [.vi 0, .vi 1, .vi 2])) (.e (.sub (.e (.v 1)) (.k (D.int 4))))))
    .nil)
def f77 : Fn := ⟨3, 3, b77⟩
/-- is_wind_at, slots: 0 winds 1 state 2 beat 3 thing -/
def b78 : Ss := (.cons (.ret (.and_ (.call 2 (.cons (.v 3) (.cons (.k (D.int 2)) .nil)) .nil [.vi 0, .vi 1]) (.cmp .In (.e (.v 3)) (.e (.call 76 (.cons (.v 0) (.cons (.sub (.e (.v 1)) (.k (D.int 0))) (.cons (.sub (.e (.v 1)) (.k (D.int 1))) (.cons (.v 2) .nil)))) .nil [.vi 0, .vi 1, .vi 2, .vi 3])))))
    .nil)
def f78 : Fn := ⟨4, 4, b78⟩
/-- Walk_init, slots: 0 self 1 land 2 flight 3 since 4 turn -/
def b79 : Ss := (.cons (.sat 1 (.v 0) "land_below" (.v 1))
    (.cons (.sat 1 (.v 0) "flight_gone" (.v 2))
    (.cons (.sat 1 (.v 0) "begun_at" (.v 3))
    (.cons (.sat 1 (.v 0) "turned_at" (.v 4))
    (.cons (.sat 1 (.v 0) "beat_now" (.v 3))
    (.cons (.sat 1 (.v 0) "states_so_far" (.box (.lst (.cons (.sub (.e (.v 2)) (.k (D.int 1))) .nil))))
    (.cons (.sat 1 (.v 0) "word_now" (.meth 0 55 "hurts" (.v 1) (.cons (.sub (.e (.sub (.e (.v 2)) (.k (D.int 1)))) (.k (D.int 0))) (.cons (.sub (.e (.sub (.e (.v 2)) (.k (D.int 1)))) (.k (D.int 1))) (.cons (.v 3) (.cons (.sub (.e (.sub (.e (.v 2)) (.k (D.int 0)))) (.k (D.int 1))) .nil)))) .nil [.vi 0, .vi 1, .vi 2, .vi 3, .vi 4]))
    .nil)))))))
def f79 : Fn := ⟨5, 5, b79⟩
/-- Walk_last_state, slots: 0 self -/
def b80 : Ss := (.cons (.ret (.sub (.e (.att 1 (.v 0) "states_so_far")) (.neg (.k (D.int 1)))))
    .nil)
def f80 : Fn := ⟨1, 1, b80⟩
/-- Walk_is_ended, slots: 0 self -/
def b81 : Ss := (.cons (.ret (.or_ (.cmp .IsNot (.e (.att 1 (.v 0) "word_now")) (.e (.k D.non))) (.cmp .Eq (.e (.att 1 (.v 0) "beat_now")) (.e (.att 0 (.att 1 (.v 0) "land_below") "day")))))
    .nil)
def f81 : Fn := ⟨1, 1, b81⟩
/-- Walk_go_on, slots: 0 self 1 wind 2 row 3 state -/
def b82 : Ss := (.cons (.asg (.nm 2) (.call 28 (.cons (.att 1 (.v 0) "flight_gone") (.cons (.att 1 (.v 0) "begun_at") (.cons (.att 1 (.v 0) "beat_now") .nil))) (.cons (.att 1 (.v 0) "turned_at") .nil) [.vi 0, .vi 1, .vi 2, .vi 3]))
    (.cons (.asa 1 3 (.v 0) "word_now" (.call 64 (.cons (.att 1 (.v 0) "land_below") (.cons (.att 1 (.v 0) "flight_gone") (.cons (.v 2) (.cons (.att 1 (.v 0) "beat_now") (.cons (.meth 1 80 "last_state" (.v 0) .nil .nil [.vi 0]) (.cons (.v 1) .nil)))))) .nil [.vi 0, .vi 1, .vi 2, .vi 3, .vi 4, .vi 5]))
    (.cons (.iff (.cmp .IsNot (.e (.v 3)) (.e (.k D.non))) (.cons (.ex (.app (.att 1 (.v 0) "states_so_far") (.v 3)))
    .nil) .nil)
    (.cons (.aug 1 (.v 0) "beat_now" (.k (D.int 1)))
    .nil))))
def f82 : Fn := ⟨2, 4, b82⟩
/-- Walk_told_so_far, slots: 0 self 1 word -/
def b83 : Ss := (.cons (.asg (.nm 1) (.att 1 (.v 0) "word_now"))
    (.cons (.iff (.and_ (.cmp .Is (.e (.v 1)) (.e (.k D.non))) (.and_ (.meth 1 81 "is_ended" (.v 0) .nil .nil [.vi 0]) (.nt (.call 77 (.cons (.att 1 (.v 0) "land_below") (.cons (.att 1 (.v 0) "flight_gone") (.cons (.meth 1 80 "last_state" (.v 0) .nil .nil [.vi 0]) .nil))) .nil [.vi 0, .vi 1, .vi 2])))) (.cons (.asg (.nm 1) (.gl (D.str "late")))
    .nil) .nil)
    (.cons (.ret (.tup (.cons (.bi .tuple (.cons (.e (.att 1 (.v 0) "states_so_far")) .nil)) (.cons (.v 1) .nil))))
    .nil)))
def f83 : Fn := ⟨1, 2, b83⟩
/-- walked, slots: 0 land 1 winds 2 flight 3 since 4 thing 5 turn 6 walk 7 wind -/
def b84 : Ss := (.cons (.iff (.nt (.isi (.e (.v 4)) .tuple)) (.cons (.ret (.k D.non))
    .nil) .nil)
    (.cons (.asg (.nm 6) (.mk 1 79 (.cons (.v 0) (.cons (.v 2) (.cons (.v 3) (.cons (.v 5) .nil)))) .nil [.vi 0, .vi 1, .vi 2, .vi 3, .vi 4]))
    (.cons (.fr (.nm 7) (.seq (.v 4)) (.cons (.iff (.or_ (.meth 1 81 "is_ended" (.v 6) .nil .nil [.vi 0]) (.nt (.call 78 (.cons (.v 1) (.cons (.meth 1 80 "last_state" (.v 6) .nil .nil [.vi 0]) (.cons (.att 1 (.v 6) "beat_now") (.cons (.v 7) .nil)))) .nil [.vi 0, .vi 1, .vi 2, .vi 3]))) (.cons (.ret (.k D.non))
    .nil) .nil)
    (.cons (.ex (.meth 1 82 "go_on" (.v 6) (.cons (.v 7) .nil) .nil [.vi 0, .vi 1]))
    .nil)))
    (.cons (.ret (.meth 1 83 "told_so_far" (.v 6) .nil .nil [.vi 0]))
    .nil))))
def f84 : Fn := ⟨6, 8, b84⟩
/-- llets, slots: 0 _law_deck_here 1 _law_way_here 2 _law_a 3 _law_b -/
def b85 : Ss := (.cons (.asg (.tp (.cons (.nm 2) (.cons (.nm 3) .nil))) (.tup (.cons (.bin .Sub (.call 16 (.cons (.v 0) (.cons (.k (D.int 3)) .nil)) .nil [.vi 0, .vi 1]) (.k (D.int 1))) (.cons (.bin .Sub (.call 16 (.cons (.v 0) (.cons (.k (D.int 3)) .nil)) .nil [.vi 0, .vi 1]) (.k (D.int 1))) .nil))))
    (.cons (.ret (.sub (.e (.lst (.cons (.tup (.cons (.k (D.int 0)) (.cons (.k (D.int 0)) (.cons (.k (D.int 0)) (.cons (.k (D.int 0)) .nil))))) (.cons (.tup (.cons (.v 2) (.cons (.v 2) (.cons (.v 3) (.cons (.v 3) .nil))))) (.cons (.tup (.cons (.v 2) (.cons (.bin .Add (.v 2) (.k (D.int 1))) (.cons (.v 3) (.cons (.v 3) .nil))))) (.cons (.tup (.cons (.v 2) (.cons (.v 2) (.cons (.bin .Sub (.v 3) (.k (D.int 1))) (.cons (.bin .Add (.v 3) (.k (D.int 1))) .nil))))) (.cons (.tup (.cons (.neg (.k (D.int 1))) (.cons (.k (D.int 1)) (.cons (.neg (.k (D.int 1))) (.cons (.k (D.int 1)) .nil))))) (.cons (.tup (.cons (.k (D.int 0)) (.cons (.k (D.int 0)) (.cons (.v 3) (.cons (.bin .Add (.v 3) (.k (D.int 1))) .nil))))) .nil)))))))) (.v 1)))
    .nil))
def f85 : Fn := ⟨2, 4, b85⟩
/-- lblowing, slots: 0 _law_deck_here 1 _law_fields_here 2 _law_many 3 _law_wide 4 _law_high 5 _law_days 6 _law_found 7 _law_k 8 _law_room_here -/
def b86 : Ss := (.cons (.asg (.tp (.cons (.nm 3) (.cons (.nm 4) (.cons (.nm 5) .nil)))) (.tup (.cons (.sub (.e (.v 1)) (.k (D.str "wide"))) (.cons (.sub (.e (.v 1)) (.k (D.str "high"))) (.cons (.sub (.e (.v 1)) (.k (D.str "day"))) .nil)))))
    (.cons (.own 6 (.lst .nil))
    (.cons (.fr (.nm 7) (.rng1 (.call 16 (.cons (.v 0) (.cons (.bin .Add (.v 2) (.k (D.int 1))) .nil)) .nil [.vi 0, .vi 1])) (.cons (.asg (.nm 8) (.ite (.cmp .Eq (.e (.call 16 (.cons (.v 0) (.cons (.k (D.int 3)) .nil)) .nil [.vi 0, .vi 1])) (.e (.k (D.int 0)))) (.tup (.cons (.k (D.int 0)) (.cons (.k (D.int 0)) (.cons (.bin .Sub (.v 3) (.k (D.int 1))) (.cons (.bin .Sub (.v 4) (.k (D.int 1))) (.cons (.k (D.int 0)) (.cons (.v 5) .nil))))))) (.call 33 (.cons (.v 0) (.cons (.v 3) (.cons (.v 4) (.cons (.v 5) .nil)))) .nil [.vi 0, .vi 1, .vi 2, .vi 3])))
    (.cons (.apS 6 (.tup (.cons (.v 8) (.cons (.call 85 (.cons (.v 0) (.cons (.sub (.e (.lst (.cons (.k (D.int 0)) (.cons (.k (D.int 1)) (.cons (.k (D.int 2)) (.cons (.k (D.int 2)) (.cons (.k (D.int 3)) (.cons (.k (D.int 3)) (.cons (.k (D.int 5)) (.cons (.k (D.int 5)) (.cons (.k (D.int 4)) .nil))))))))))) (.call 16 (.cons (.v 0) (.cons (.k (D.int 9)) .nil)) .nil [.vi 0, .vi 1])) .nil)) .nil [.vi 0, .vi 1]) .nil))))
    .nil)))
    (.cons (.ret (.bi .tuple (.cons (.pk 6) .nil)))
    .nil))))
def f86 : Fn := ⟨3, 9, b86⟩
/-- lwinds_at, slots: 0 _law_rows 1 _law_x 2 _law_y 3 _law_beat_here 4 _law_room_here 5 _law_a 6 _law_b 7 _law_c 8 _law_d 9 _law_k -/
def b87 : Ss := (.cons (.fr (.tp (.cons (.nm 4) (.cons (.tp (.cons (.nm 5) (.cons (.nm 6) (.cons (.nm 7) (.cons (.nm 8) .nil))))) .nil))) (.seq (.v 0)) (.cons (.iff (.and_ (.call 65 (.cons (.v 4) (.cons (.v 1) (.cons (.v 2) .nil))) .nil [.vi 0, .vi 1, .vi 2]) (.chn .LtE .LtE (.sub (.e (.v 4)) (.k (D.int 4))) (.v 3) (.sub (.e (.v 4)) (.k (D.int 5))))) (.cons (.ret (.lc [9] (.nm 9) (.rng1 (.bin .Mult (.bin .Add (.bin .Sub (.v 6) (.v 5)) (.k (D.int 1))) (.bin .Add (.bin .Sub (.v 8) (.v 7)) (.k (D.int 1))))) .none (.tup (.cons (.bin .Add (.bin .FloorDiv (.v 9) (.bin .Add (.bin .Sub (.v 8) (.v 7)) (.k (D.int 1)))) (.v 5)) (.cons (.bin .Add (.bin .Mod (.v 9) (.bin .Add (.bin .Sub (.v 8) (.v 7)) (.k (D.int 1)))) (.v 7)) .nil)))))
    .nil) .nil)
    .nil))
    (.cons (.ret (.lst (.cons (.tup (.cons (.k (D.int 0)) (.cons (.k (D.int 0)) .nil))) .nil)))
    .nil))
def f87 : Fn := ⟨4, 10, b87⟩
/-- lhome_at, slots: 0 _law_fields_here 1 _law_ours 2 _law_x 3 _law_y -/
def b88 : Ss := (.cons (.ret (.cmp .Eq (.e (.call 66 (.cons (.v 0) (.cons (.v 2) (.cons (.v 3) .nil))) .nil [.vi 0, .vi 1, .vi 2])) (.e (.sub (.e (.v 1)) (.k (D.int 4))))))
    .nil)
def f88 : Fn := ⟨4, 4, b88⟩
/-- lrun, slots: 0 _law_deck_here 1 _law_fields_here 2 _law_rows 3 _law_ours 4 _law_start 5 _law_turned 6 _law_winds_here 7 _law_states 8 _law_word 9 _law_beat_here 10 _law_here 11 _law_wind 12 _law_behind -/
def b89 : Ss := (.cons (.par (.cons true 6 (.lst .nil) (.cons false 7 (.lst (.cons (.sub (.e (.v 3)) (.k (D.int 1))) .nil)) .nil)))
    (.cons (.asg (.nm 8) (.call 67 (.cons (.v 1) (.cons (.sub (.e (.sub (.e (.v 3)) (.k (D.int 1)))) (.k (D.int 0))) (.cons (.sub (.e (.sub (.e (.v 3)) (.k (D.int 1)))) (.k (D.int 1))) (.cons (.v 4) (.cons (.sub (.e (.sub (.e (.v 3)) (.k (D.int 0)))) (.k (D.int 1))) .nil))))) .nil [.vi 0, .vi 1, .vi 2, .vi 3, .vi 4]))
    (.cons (.fr (.nm 9) (.rng2 (.v 4) (.sub (.e (.v 1)) (.k (D.str "day")))) (.cons (.iff (.cmp .Is (.e (.v 8)) (.e (.k D.non))) (.cons (.asg (.nm 10) (.sub (.e (.v 7)) (.neg (.k (D.int 1)))))
    (.cons (.asg (.nm 11) (.call 17 (.cons (.v 0) (.cons (.call 87 (.cons (.v 2) (.cons (.sub (.e (.v 10)) (.k (D.int 0))) (.cons (.sub (.e (.v 10)) (.k (D.int 1))) (.cons (.v 9) .nil)))) .nil [.vi 0, .vi 1, .vi 2, .vi 3]) .nil)) .nil [.vi 0, .vi 1]))
    (.cons (.asg (.tp (.cons (.nm 12) (.cons (.nm 8) .nil))) (.call 71 (.cons (.v 1) (.cons (.v 3) (.cons (.call 42 (.cons (.v 3) (.cons (.v 4) (.cons (.v 9) (.cons (.v 5) .nil)))) .nil [.vi 0, .vi 1, .vi 2, .vi 3]) (.cons (.v 9) (.cons (.v 10) (.cons (.v 11) .nil)))))) .nil [.vi 0, .vi 1, .vi 2, .vi 3, .vi 4, .vi 5]))
    (.cons (.apS 6 (.v 11))
    (.cons (.asg (.nm 7) (.bin .Add (.v 7) (.ite (.cmp .IsNot (.e (.v 12)) (.e (.k D.non))) (.lst (.cons (.v 12) .nil)) (.lst .nil))))
    .nil))))) .nil)
    .nil))
    (.cons (.iff (.and_ (.cmp .Is (.e (.v 8)) (.e (.k D.non))) (.nt (.call 88 (.cons (.v 1) (.cons (.v 3) (.cons (.sub (.e (.sub (.e (.v 7)) (.neg (.k (D.int 1))))) (.k (D.int 0))) (.cons (.sub (.e (.sub (.e (.v 7)) (.neg (.k (D.int 1))))) (.k (D.int 1))) .nil)))) .nil [.vi 0, .vi 1, .vi 2, .vi 3]))) (.cons (.asg (.nm 8) (.k (D.str "late")))
    .nil) .nil)
    (.cons (.ret (.tup (.cons (.bi .tuple (.cons (.pk 6) .nil)) (.cons (.bi .tuple (.cons (.e (.v 7)) .nil)) (.cons (.v 8) .nil)))))
    .nil)))))
def f89 : Fn := ⟨6, 13, b89⟩
/-- lwalked, slots: 0 _law_fields_here 1 _law_rows 2 _law_ours 3 _law_start 4 _law_own_thing 5 _law_turned 6 _law_states 7 _law_word 8 _law_k 9 _law_wind 10 _law_whole 11 _law_x 12 _law_y 13 _law_step_here 14 _law_charge 15 _law_row_here 16 _law_behind 17 _law_one -/
def b90 : Ss := (.cons (.iff (.or_ (.nt (.isi (.e (.v 4)) .tuple)) (.cmp .Gt (.e (.bi .len (.cons (.e (.v 4)) .nil))) (.e (.bin .Sub (.sub (.e (.v 0)) (.k (D.str "day"))) (.v 3))))) (.cons (.ret (.k D.non))
    .nil) .nil)
    (.cons (.asg (.tp (.cons (.nm 6) (.cons (.nm 7) .nil))) (.tup (.cons (.lst (.cons (.sub (.e (.v 2)) (.k (D.int 1))) .nil)) (.cons (.call 67 (.cons (.v 0) (.cons (.sub (.e (.sub (.e (.v 2)) (.k (D.int 1)))) (.k (D.int 0))) (.cons (.sub (.e (.sub (.e (.v 2)) (.k (D.int 1)))) (.k (D.int 1))) (.cons (.v 3) (.cons (.sub (.e (.sub (.e (.v 2)) (.k (D.int 0)))) (.k (D.int 1))) .nil))))) .nil [.vi 0, .vi 1, .vi 2, .vi 3, .vi 4]) .nil))))
    (.cons (.fr (.tp (.cons (.nm 8) (.cons (.nm 9) .nil))) (.enm (.v 4)) (.cons (.iff (.or_ (.cmp .IsNot (.e (.v 7)) (.e (.k D.non))) (.or_ (.nt (.isi (.e (.v 9)) .tuple)) (.cmp .NotEq (.e (.bi .len (.cons (.e (.v 9)) .nil))) (.e (.k (D.int 2)))))) (.cons (.ret (.k D.non))
    .nil) .nil)
    (.cons (.asg (.tp (.cons (.nm 11) (.cons (.nm 12) (.cons (.nm 13) (.cons (.nm 14) .nil))))) (.sub (.e (.v 6)) (.neg (.k (D.int 1)))))
    (.cons (.iff (.cmp .NotEq (.e (.lc [17] (.nm 17) (.seq (.v 9)) (.some (.or_ (.isi (.e (.v 17)) .bool) (.nt (.isi (.e (.v 17)) .int)))) (.v 17))) (.e (.lst .nil))) (.cons (.ret (.k D.non))
    .nil) .nil)
    (.cons (.iff (.cmp .NotIn (.e (.v 9)) (.e (.call 87 (.cons (.v 1) (.cons (.v 11) (.cons (.v 12) (.cons (.bin .Add (.v 3) (.v 8)) .nil)))) .nil [.vi 0, .vi 1, .vi 2, .vi 3]))) (.cons (.ret (.k D.non))
    .nil) .nil)
    (.cons (.asg (.nm 15) (.call 42 (.cons (.v 2) (.cons (.v 3) (.cons (.bin .Add (.v 3) (.v 8)) (.cons (.v 5) .nil)))) .nil [.vi 0, .vi 1, .vi 2, .vi 3]))
    (.cons (.asg (.tp (.cons (.nm 16) (.cons (.nm 7) .nil))) (.call 71 (.cons (.v 0) (.cons (.v 2) (.cons (.v 15) (.cons (.bin .Add (.v 3) (.v 8)) (.cons (.sub (.e (.v 6)) (.neg (.k (D.int 1)))) (.cons (.v 9) .nil)))))) .nil [.vi 0, .vi 1, .vi 2, .vi 3, .vi 4, .vi 5]))
    (.cons (.asg (.nm 6) (.bin .Add (.v 6) (.ite (.cmp .IsNot (.e (.v 16)) (.e (.k D.non))) (.lst (.cons (.v 16) .nil)) (.lst .nil))))
    .nil))))))))
    (.cons (.asg (.nm 10) (.and_ (.cmp .Is (.e (.v 7)) (.e (.k D.non))) (.cmp .Eq (.e (.bi .len (.cons (.e (.v 4)) .nil))) (.e (.bin .Sub (.sub (.e (.v 0)) (.k (D.str "day"))) (.v 3))))))
    (.cons (.iff (.and_ (.v 10) (.nt (.call 88 (.cons (.v 0) (.cons (.v 2) (.cons (.sub (.e (.sub (.e (.v 6)) (.neg (.k (D.int 1))))) (.k (D.int 0))) (.cons (.sub (.e (.sub (.e (.v 6)) (.neg (.k (D.int 1))))) (.k (D.int 1))) .nil)))) .nil [.vi 0, .vi 1, .vi 2, .vi 3]))) (.cons (.asg (.nm 7) (.k (D.str "late")))
    .nil) .nil)
    (.cons (.ret (.tup (.cons (.bi .tuple (.cons (.e (.v 6)) .nil)) (.cons (.v 7) .nil))))
    .nil))))))
def f90 : Fn := ⟨6, 18, b90⟩
/-- lthing, slots: 0 _law_deck_here 1 _law_winds_here 2 _law_sort 3 _law_at 4 _law_more 5 _law_k 6 _law_a 7 _law_b -/
def b91 : Ss := (.cons (.asg (.tp (.cons (.nm 2) (.cons (.nm 3) .nil))) (.tup (.cons (.call 16 (.cons (.v 0) (.cons (.k (D.int 10)) .nil)) .nil [.vi 0, .vi 1]) (.cons (.call 16 (.cons (.v 0) (.cons (.bin .Add (.bi .len (.cons (.e (.v 1)) .nil)) (.k (D.int 1))) .nil)) .nil [.vi 0, .vi 1]) .nil))))
    (.cons (.asg (.nm 4) (.tup (.cons (.bin .Sub (.call 16 (.cons (.v 0) (.cons (.k (D.int 5)) .nil)) .nil [.vi 0, .vi 1]) (.k (D.int 2))) (.cons (.bin .Sub (.call 16 (.cons (.v 0) (.cons (.k (D.int 5)) .nil)) .nil [.vi 0, .vi 1]) (.k (D.int 2))) .nil))))
    (.cons (.iff (.cmp .Lt (.e (.v 2)) (.e (.k (D.int 3)))) (.cons (.ret (.v 1))
    .nil) .nil)
    (.cons (.iff (.cmp .Eq (.e (.v 2)) (.e (.k (D.int 3)))) (.cons (.ret (.cut (.e (.v 1)) .none (.some (.v 3))))
    .nil) .nil)
    (.cons (.iff (.cmp .Eq (.e (.v 2)) (.e (.k (D.int 4)))) (.cons (.ret (.bin .Add (.v 1) (.tup (.cons (.v 4) .nil))))
    .nil) .nil)
    (.cons (.iff (.cmp .Eq (.e (.v 2)) (.e (.k (D.int 5)))) (.cons (.ret (.bin .Add (.bin .Add (.cut (.e (.v 1)) .none (.some (.v 3))) (.tup (.cons (.v 4) .nil))) (.cut (.e (.v 1)) (.some (.bin .Add (.v 3) (.k (D.int 1)))) .none)))
    .nil) .nil)
    (.cons (.iff (.cmp .Eq (.e (.v 2)) (.e (.k (D.int 6)))) (.cons (.ret (.bin .Add (.bin .Add (.cut (.e (.v 1)) .none (.some (.v 3))) (.tup (.cons (.tup (.cons (.sub (.e (.v 4)) (.k (D.int 0))) (.cons (.k (D.bl true)) .nil))) .nil))) (.cut (.e (.v 1)) (.some (.bin .Add (.v 3) (.k (D.int 1)))) .none)))
    .nil) .nil)
    (.cons (.iff (.cmp .Eq (.e (.v 2)) (.e (.k (D.int 7)))) (.cons (.ret (.bin .Add (.cut (.e (.v 1)) .none (.some (.v 3))) (.tup (.cons (.call 17 (.cons (.v 0) (.cons (.lst (.cons (.k D.non) (.cons (.tup (.cons (.k (D.int 0)) .nil)) (.cons (.tup (.cons (.k (D.int 0)) (.cons (.k (D.int 0)) (.cons (.k (D.int 0)) .nil)))) (.cons (.lst (.cons (.k (D.int 0)) (.cons (.k (D.int 0)) .nil))) (.cons (.k (D.int 0)) (.cons (.k (D.str "")) (.cons (.tup (.cons (.tup (.cons (.k (D.int 0)) .nil)) (.cons (.k (D.int 0)) .nil))) .nil)))))))) .nil)) .nil [.vi 0, .vi 1]) .nil))))
    .nil) .nil)
    (.cons (.iff (.cmp .Eq (.e (.v 2)) (.e (.k (D.int 8)))) (.cons (.ret (.bi .tuple (.cons (.e (.lc [5, 6, 7] (.tp (.cons (.nm 5) (.cons (.tp (.cons (.nm 6) (.cons (.nm 7) .nil))) .nil))) (.enm (.v 1)) .none (.ite (.cmp .Eq (.e (.v 5)) (.e (.v 3))) (.tup (.cons (.bi .bool (.cons (.e (.v 6)) .nil)) (.cons (.v 7) .nil))) (.tup (.cons (.v 6) (.cons (.v 7) .nil)))))) .nil)))
    .nil) .nil)
    (.cons (.ret (.call 17 (.cons (.v 0) (.cons (.lst (.cons (.k D.non) (.cons (.k (D.bl true)) (.cons (.k (D.int 0)) (.cons (.k (D.str "")) (.cons (.lst .nil) (.cons (.dsp .nil) (.cons (.tup .nil) (.cons (.bi .list (.cons (.e (.v 1)) .nil)) (.cons (.tup (.cons (.v 1) .nil)) (.cons (.bin .Mult (.tup (.cons (.tup (.cons (.k (D.int 0)) (.cons (.k (D.int 0)) .nil))) .nil)) (.k (D.int 25))) .nil))))))))))) .nil)) .nil [.vi 0, .vi 1]))
    .nil))))))))))
def f91 : Fn := ⟨2, 8, b91⟩
/-- law_4, slots: 0 _law_script 1 _law_deck_here 2 _law_k 3 _law_fields_here 4 _law_rows 5 _law_own_land 6 _law_own_flight 7 _law_start 8 _law_again 9 _law_turned 10 _law_winds_here 11 _law_own_thing 12 _law_kept 13 _law_due 14 _law_told 15 _law_twice 16 _law_one -/
def b92 : Ss := (.cons (.asg (.nm 1) (.call 15 (.cons (.v 0) .nil) .nil [.vi 0]))
    (.cons (.fr (.nm 2) (.rng1 (.k (D.int 3))) (.cons (.asg (.nm 3) (.call 37 (.cons (.v 1) (.cons (.k (D.int 1)) .nil)) .nil [.vi 0, .vi 1]))
    (.cons (.asg (.tp (.cons (.nm 4) (.cons (.nm 5) .nil))) (.tup (.cons (.call 86 (.cons (.v 1) (.cons (.v 3) (.cons (.k (D.int 3)) .nil))) .nil [.vi 0, .vi 1, .vi 2]) (.cons (.call 44 (.cons (.v 3) .nil) .nil [.vi 0]) .nil))))
    (.cons (.asg (.nm 6) (.call 41 (.cons (.v 1) (.cons (.v 3) (.cons (.cmp .Gt (.e (.call 16 (.cons (.v 1) (.cons (.k (D.int 3)) .nil)) .nil [.vi 0, .vi 1])) (.e (.k (D.int 0)))) .nil))) .nil [.vi 0, .vi 1, .vi 2]))
    (.cons (.asg (.nm 7) (.bin .Mult (.call 16 (.cons (.v 1) (.cons (.bin .Add (.sub (.e (.v 3)) (.k (D.str "day"))) (.k (D.int 1))) .nil)) .nil [.vi 0, .vi 1]) (.call 16 (.cons (.v 1) (.cons (.k (D.int 2)) .nil)) .nil [.vi 0, .vi 1])))
    (.cons (.fr (.nm 8) (.rng1 (.k (D.int 6))) (.cons (.asg (.nm 9) (.call 17 (.cons (.v 1) (.cons (.bin .Add (.lst (.cons (.k D.non) .nil)) (.lrg (.v 7) (.bin .Add (.sub (.e (.v 3)) (.k (D.str "day"))) (.k (D.int 1))))) .nil)) .nil [.vi 0, .vi 1]))
    (.cons (.asg (.nm 10) (.sub (.e (.call 89 (.cons (.v 1) (.cons (.v 3) (.cons (.v 4) (.cons (.v 6) (.cons (.v 7) (.cons (.v 9) .nil)))))) .nil [.vi 0, .vi 1, .vi 2, .vi 3, .vi 4, .vi 5])) (.k (D.int 0))))
    (.cons (.asg (.nm 11) (.call 91 (.cons (.v 1) (.cons (.v 10) .nil)) .nil [.vi 0, .vi 1]))
    (.cons (.asg (.nm 12) (.bi .repr (.cons (.e (.tup (.cons (.v 11) (.cons (.v 6) (.cons (.v 4) .nil))))) .nil)))
    (.cons (.asg (.nm 13) (.bi .repr (.cons (.e (.call 90 (.cons (.v 3) (.cons (.v 4) (.cons (.v 6) (.cons (.v 7) (.cons (.v 11) (.cons (.v 9) .nil)))))) .nil [.vi 0, .vi 1, .vi 2, .vi 3, .vi 4, .vi 5])) .nil)))
    (.cons (.asg (.nm 14) (.lc [15] (.nm 15) (.rng1 (.k (D.int 2))) .none (.call 84 (.cons (.v 5) (.cons (.v 4) (.cons (.v 6) (.cons (.v 7) (.cons (.v 11) .nil))))) (.cons (.v 9) .nil) [.vi 0, .vi 1, .vi 2, .vi 3, .vi 4, .vi 5])))
    (.cons (.iff (.or_ (.cmp .NotEq (.e (.lc [16] (.nm 16) (.seq (.v 14)) (.some (.cmp .NotEq (.e (.bi .repr (.cons (.e (.v 16)) .nil))) (.e (.v 13)))) (.v 16))) (.e (.lst .nil))) (.cmp .NotEq (.e (.bi .repr (.cons (.e (.tup (.cons (.v 11) (.cons (.v 6) (.cons (.v 4) .nil))))) .nil))) (.e (.v 12)))) (.cons (.ret (.k (D.bl false)))
    .nil) .nil)
    (.cons (.asg (.nm 13) (.bi .repr (.cons (.e (.call 90 (.cons (.v 3) (.cons (.v 4) (.cons (.v 6) (.cons (.v 7) (.cons (.v 11) (.cons (.k D.non) .nil)))))) .nil [.vi 0, .vi 1, .vi 2, .vi 3, .vi 4, .vi 5])) .nil)))
    (.cons (.iff (.cmp .NotEq (.e (.bi .repr (.cons (.e (.call 84 (.cons (.v 5) (.cons (.v 4) (.cons (.v 6) (.cons (.v 7) (.cons (.v 11) .nil))))) .nil [.vi 0, .vi 1, .vi 2, .vi 3, .vi 4, .dv D.non])) .nil))) (.e (.v 13))) (.cons (.ret (.k (D.bl false)))
    .nil) .nil)
    (.cons (.iff (.cmp .NotEq (.e (.bi .repr (.cons (.e (.call 84 .nil (.cons (.v 11) (.cons (.v 7) (.cons (.v 6) (.cons (.v 4) (.cons (.v 5) .nil))))) [.vi 4, .vi 3, .vi 2, .vi 1, .vi 0, .dv D.non])) .nil))) (.e (.v 13))) (.cons (.ret (.k (D.bl false)))
    .nil) .nil)
    .nil)))))))))))
    .nil))))))
    (.cons (.ret (.k (D.bl true)))
    .nil)))
def f92 : Fn := ⟨1, 17, b92⟩
def Gk09 : List (Nat × Fn) := [(75, f75), (76, f76), (77, f77), (78, f78), (79, f79), (80, f80), (81, f81), (82, f82), (83, f83), (84, f84), (85, f85), (86, f86), (87, f87), (88, f88), (89, f89), (90, f90), (91, f91), (92, f92)]
theorem hf75 {P : Prg} [h : HasF P Gk09] : P.fs.lookup 75 = some f75 := h.h _ (List.mem_of_getElem? (i := 0) rfl)
theorem hf76 {P : Prg} [h : HasF P Gk09] : P.fs.lookup 76 = some f76 := h.h _ (List.mem_of_getElem? (i := 1) rfl)
theorem hf77 {P : Prg} [h : HasF P Gk09] : P.fs.lookup 77 = some f77 := h.h _ (List.mem_of_getElem? (i := 2) rfl)
theorem hf78 {P : Prg} [h : HasF P Gk09] : P.fs.lookup 78 = some f78 := h.h _ (List.mem_of_getElem? (i := 3) rfl)
theorem hf79 {P : Prg} [h : HasF P Gk09] : P.fs.lookup 79 = some f79 := h.h _ (List.mem_of_getElem? (i := 4) rfl)
theorem hf80 {P : Prg} [h : HasF P Gk09] : P.fs.lookup 80 = some f80 := h.h _ (List.mem_of_getElem? (i := 5) rfl)
theorem hf81 {P : Prg} [h : HasF P Gk09] : P.fs.lookup 81 = some f81 := h.h _ (List.mem_of_getElem? (i := 6) rfl)
theorem hf82 {P : Prg} [h : HasF P Gk09] : P.fs.lookup 82 = some f82 := h.h _ (List.mem_of_getElem? (i := 7) rfl)
theorem hf83 {P : Prg} [h : HasF P Gk09] : P.fs.lookup 83 = some f83 := h.h _ (List.mem_of_getElem? (i := 8) rfl)
theorem hf84 {P : Prg} [h : HasF P Gk09] : P.fs.lookup 84 = some f84 := h.h _ (List.mem_of_getElem? (i := 9) rfl)
theorem hf85 {P : Prg} [h : HasF P Gk09] : P.fs.lookup 85 = some f85 := h.h _ (List.mem_of_getElem? (i := 10) rfl)
theorem hf86 {P : Prg} [h : HasF P Gk09] : P.fs.lookup 86 = some f86 := h.h _ (List.mem_of_getElem? (i := 11) rfl)
theorem hf87 {P : Prg} [h : HasF P Gk09] : P.fs.lookup 87 = some f87 := h.h _ (List.mem_of_getElem? (i := 12) rfl)
theorem hf88 {P : Prg} [h : HasF P Gk09] : P.fs.lookup 88 = some f88 := h.h _ (List.mem_of_getElem? (i := 13) rfl)
theorem hf89 {P : Prg} [h : HasF P Gk09] : P.fs.lookup 89 = some f89 := h.h _ (List.mem_of_getElem? (i := 14) rfl)
theorem hf90 {P : Prg} [h : HasF P Gk09] : P.fs.lookup 90 = some f90 := h.h _ (List.mem_of_getElem? (i := 15) rfl)
theorem hf91 {P : Prg} [h : HasF P Gk09] : P.fs.lookup 91 = some f91 := h.h _ (List.mem_of_getElem? (i := 16) rfl)
theorem hf92 {P : Prg} [h : HasF P Gk09] : P.fs.lookup 92 = some f92 := h.h _ (List.mem_of_getElem? (i := 17) rfl)
end Wf
set_option Elab.async false
set_option linter.all false
set_option maxRecDepth 100000
set_option maxHeartbeats 4000000
namespace K09h
open PySem PySem.Spec PyProof.Rows L2 Wf
abbrev pw : Program := PySem.Challenge.pw_windfleet_k09_runs_walked
def top (i : Nat) : Stmt := pw.main.body.getD i (.Pass ⟨0, 0, 0, 0⟩)
def x0 : Df := ⟨⟨("is_whole", none), "is_whole", "is_whole", defArgs (top 2), defBody (top 2), defScope (top 2), [], []⟩, ["thing"], ["thing"], f0⟩
def x1 : Df := ⟨⟨("is_within", none), "is_within", "is_within", defArgs (top 3), defBody (top 3), defScope (top 3), [], []⟩, ["thing", "least", "most"], ["thing", "least", "most"], f1⟩
def x2 : Df := ⟨⟨("are_wholes", none), "are_wholes", "are_wholes", defArgs (top 4), defBody (top 4), defScope (top 4), [], []⟩, ["thing", "many", "one"], ["thing", "many"], f2⟩
def x3 : Df := ⟨⟨("is_box", none), "is_box", "is_box", defArgs (top 15), defBody (top 15), defScope (top 15), [], []⟩, ["land", "thing", "left", "low", "right", "top"], ["land", "thing"], f3⟩
def x4 : Df := ⟨⟨("is_room", none), "is_room", "is_room", defArgs (top 16), defBody (top 16), defScope (top 16), [], []⟩, ["land", "thing", "box", "first", "last"], ["land", "thing"], f4⟩
def x5 : Df := ⟨⟨("are_rooms", none), "are_rooms", "are_rooms", defArgs (top 17), defBody (top 17), defScope (top 17), [], []⟩, ["land", "thing", "one"], ["land", "thing"], f5⟩
def x6 : Df := ⟨⟨("are_heights", none), "are_heights", "are_heights", defArgs (top 18), defBody (top 18), defScope (top 18), [], []⟩, ["land", "thing", "line", "height"], ["land", "thing"], f6⟩
def x49 : Df := ⟨⟨("has_square", none), "has_square", "has_square", defArgs (top 19), defBody (top 19), defScope (top 19), [], []⟩, ["box", "x", "y", "left", "low", "right", "top", "others"], ["box", "x", "y"], f49⟩
def x7 : Df := ⟨⟨("do_share", none), "do_share", "do_share", defArgs (top 20), defBody (top 20), defScope (top 20), [], []⟩, ["one", "other"], ["one", "other"], f7⟩
def x8 : Df := ⟨⟨("is_pad", none), "is_pad", "is_pad", defArgs (top 21), defBody (top 21), defScope (top 21), [], []⟩, ["land", "thing"], ["land", "thing"], f8⟩
def x9 : Df := ⟨⟨("are_pads", none), "are_pads", "are_pads", defArgs (top 22), defBody (top 22), defScope (top 22), [], []⟩, ["land", "thing", "at", "one", "other"], ["land", "thing"], f9⟩
def x50 : Df := ⟨⟨("is_in", none), "is_in", "is_in", defArgs (top 23), defBody (top 23), defScope (top 23), [], []⟩, ["room", "x", "y", "beat", "box", "first", "last"], ["room", "x", "y", "beat"], f50⟩
def x51 : Df := ⟨⟨("is_beside", none), "is_beside", "is_beside", defArgs (top 24), defBody (top 24), defScope (top 24), [], []⟩, ["room", "x", "y", "beat", "left", "low", "right", "top", "first", "last"], ["room", "x", "y", "beat"], f51⟩
def x10 : Df := ⟨⟨("need_field", none), "need_field", "need_field", defArgs (top 25), defBody (top 25), defScope (top 25), [], []⟩, ["good", "name"], ["good", "name"], f10⟩
def x11 : Df := ⟨⟨("Land", some "__init__"), "__init__", "Land.__init__", defArgs (inClass (top 26) 0), defBody (inClass (top 26) 0), defScope (inClass (top 26) 0), [], [("day", .int 12), ("heights", .non), ("barred", .adr (kwdAt ("Land", some "__init__") "barred")), ("people", .adr (kwdAt ("Land", some "__init__") "people")), ("pads", .adr (kwdAt ("Land", some "__init__") "pads"))]⟩, ["self", "wide", "high", "day", "heights", "barred", "people", "pads"], ["self", "wide", "high", "day", "heights", "barred", "people", "pads"], f11⟩
def x52 : Df := ⟨⟨("Land", some "has"), "has", "Land.has", defArgs (inClass (top 26) 4), defBody (inClass (top 26) 4), defScope (inClass (top 26) 4), [], []⟩, ["self", "x", "y"], ["self", "x", "y"], f52⟩
def x53 : Df := ⟨⟨("Land", some "height_at"), "height_at", "Land.height_at", defArgs (inClass (top 26) 5), defBody (inClass (top 26) 5), defScope (inClass (top 26) 5), [], []⟩, ["self", "x", "y"], ["self", "x", "y"], f53⟩
def x54 : Df := ⟨⟨("Land", some "pad_at"), "pad_at", "Land.pad_at", defArgs (inClass (top 26) 6), defBody (inClass (top 26) 6), defScope (inClass (top 26) 6), [], []⟩, ["self", "x", "y", "found", "number", "pad"], ["self", "x", "y"], f54⟩
def x55 : Df := ⟨⟨("Land", some "hurts"), "hurts", "Land.hurts", defArgs (inClass (top 26) 7), defBody (inClass (top 26) 7), defScope (inClass (top 26) 7), [], []⟩, ["self", "x", "y", "beat", "ceiling", "room"], ["self", "x", "y", "beat", "ceiling"], f55⟩
def x56 : Df := ⟨⟨("last_step", none), "last_step", "last_step", defArgs (top 29), defBody (top 29), defScope (top 29), [], []⟩, ["task"], ["task"], f56⟩
def x57 : Df := ⟨⟨("box_for", none), "box_for", "box_for", defArgs (top 30), defBody (top 30), defScope (top 30), [], []⟩, ["task", "step"], ["task", "step"], f57⟩
def x58 : Df := ⟨⟨("step_by", none), "step_by", "step_by", defArgs (top 31), defBody (top 31), defScope (top 31), [], []⟩, ["task", "step", "x", "y", "beat", "others", "first", "last"], ["task", "step", "x", "y", "beat"], f58⟩
def x59 : Df := ⟨⟨("load_of", none), "load_of", "load_of", defArgs (top 32), defBody (top 32), defScope (top 32), [], []⟩, ["task", "step"], ["task", "step"], f59⟩
def x28 : Df := ⟨⟨("row_at", none), "row_at", "row_at", defArgs (top 39), defBody (top 39), defScope (top 39), [], [("turn", .non)]⟩, ["flight", "since", "beat", "turn", "flyer", "state", "way", "task", "home"], ["flight", "since", "beat", "turn"], f28⟩
def x29 : Df := ⟨⟨("no_further", none), "no_further", "no_further", defArgs (top 40), defBody (top 40), defScope (top 40), [], []⟩, ["number", "reach"], ["number", "reach"], f29⟩
def x30 : Df := ⟨⟨("middle_of", none), "middle_of", "middle_of", defArgs (top 41), defBody (top 41), defScope (top 41), [], []⟩, ["pad", "x1", "y1", "x2", "y2", "many"], ["pad"], f30⟩
def x31 : Df := ⟨⟨("wish_of", none), "wish_of", "wish_of", defArgs (top 42), defBody (top 42), defScope (top 42), [], []⟩, ["land", "flight", "row", "x", "y", "flyer", "state", "way", "task", "home", "word", "rest", "wanted", "there"], ["land", "flight", "row", "x", "y"], f31⟩
def x60 : Df := ⟨⟨("is_standing", none), "is_standing", "is_standing", defArgs (top 43), defBody (top 43), defScope (top 43), [], []⟩, ["land", "flight", "row", "x", "y"], ["land", "flight", "row", "x", "y"], f60⟩
def x61 : Df := ⟨⟨("cost_of", none), "cost_of", "cost_of", defArgs (top 44), defBody (top 44), defScope (top 44), [], []⟩, ["task", "step", "wish", "wind", "against", "one", "other"], ["task", "step", "wish", "wind"], f61⟩
def x62 : Df := ⟨⟨("carried", none), "carried", "carried", defArgs (top 45), defBody (top 45), defScope (top 45), [], []⟩, ["land", "flight", "row", "state", "wind", "flyer", "start", "way", "task", "home", "x", "y", "step", "charge", "wish"], ["land", "flight", "row", "state", "wind"], f62⟩
def x63 : Df := ⟨⟨("arrived", none), "arrived", "arrived", defArgs (top 46), defBody (top 46), defScope (top 46), [], []⟩, ["land", "flight", "beat", "step", "there", "x", "y", "charge", "word"], ["land", "flight", "beat", "step", "there"], f63⟩
def x64 : Df := ⟨⟨("beat_done", none), "beat_done", "beat_done", defArgs (top 47), defBody (top 47), defScope (top 47), [], []⟩, ["land", "flight", "row", "beat", "state", "wind", "there"], ["land", "flight", "row", "beat", "state", "wind"], f64⟩
def x75 : Df := ⟨⟨("let_by_bounds", none), "let_by_bounds", "let_by_bounds", defArgs (top 49), defBody (top 49), defScope (top 49), [], []⟩, ["bounds", "left", "right", "low", "top", "wx", "wy"], ["bounds"], f75⟩
def x76 : Df := ⟨⟨("winds_at", none), "winds_at", "winds_at", defArgs (top 50), defBody (top 50), defScope (top 50), [], []⟩, ["winds", "x", "y", "beat", "room", "bounds"], ["winds", "x", "y", "beat"], f76⟩
def x77 : Df := ⟨⟨("is_home", none), "is_home", "is_home", defArgs (top 53), defBody (top 53), defScope (top 53), [], []⟩, ["land", "flight", "state"], ["land", "flight", "state"], f77⟩
def x78 : Df := ⟨⟨("is_wind_at", none), "is_wind_at", "is_wind_at", defArgs (top 54), defBody (top 54), defScope (top 54), [], []⟩, ["winds", "state", "beat", "thing"], ["winds", "state", "beat", "thing"], f78⟩
def x79 : Df := ⟨⟨("Walk", some "__init__"), "__init__", "Walk.__init__", defArgs (inClass (top 55) 0), defBody (inClass (top 55) 0), defScope (inClass (top 55) 0), [], []⟩, ["self", "land", "flight", "since", "turn"], ["self", "land", "flight", "since", "turn"], f79⟩
def x80 : Df := ⟨⟨("Walk", some "last_state"), "last_state", "Walk.last_state", defArgs (inClass (top 55) 1), defBody (inClass (top 55) 1), defScope (inClass (top 55) 1), [], []⟩, ["self"], ["self"], f80⟩
def x81 : Df := ⟨⟨("Walk", some "is_ended"), "is_ended", "Walk.is_ended", defArgs (inClass (top 55) 2), defBody (inClass (top 55) 2), defScope (inClass (top 55) 2), [], []⟩, ["self"], ["self"], f81⟩
def x82 : Df := ⟨⟨("Walk", some "go_on"), "go_on", "Walk.go_on", defArgs (inClass (top 55) 3), defBody (inClass (top 55) 3), defScope (inClass (top 55) 3), [], []⟩, ["self", "wind", "row", "state"], ["self", "wind"], f82⟩
def x83 : Df := ⟨⟨("Walk", some "told_so_far"), "told_so_far", "Walk.told_so_far", defArgs (inClass (top 55) 4), defBody (inClass (top 55) 4), defScope (inClass (top 55) 4), [], []⟩, ["self", "word"], ["self"], f83⟩
def x84 : Df := ⟨⟨("walked", none), "walked", "walked", defArgs (top 56), defBody (top 56), defScope (top 56), [], [("turn", .non)]⟩, ["land", "winds", "flight", "since", "thing", "turn", "walk", "wind"], ["land", "winds", "flight", "since", "thing", "turn"], f84⟩
def x15 : Df := ⟨⟨("_law_deck", none), "_law_deck", "_law_deck", defArgs (top 58), defBody (top 58), defScope (top 58), [], []⟩, ["_law_script", "_law_cells", "_law_cell"], ["_law_script"], f15⟩
def x16 : Df := ⟨⟨("_law_draw", none), "_law_draw", "_law_draw", defArgs (top 59), defBody (top 59), defScope (top 59), [], []⟩, ["_law_deck_here", "_law_many", "_law_cell", "_law_mixed"], ["_law_deck_here", "_law_many"], f16⟩
def x17 : Df := ⟨⟨("_law_pick", none), "_law_pick", "_law_pick", defArgs (top 60), defBody (top 60), defScope (top 60), [], []⟩, ["_law_deck_here", "_law_some"], ["_law_deck_here", "_law_some"], f17⟩
def x32 : Df := ⟨⟨("_law_box", none), "_law_box", "_law_box", defArgs (top 61), defBody (top 61), defScope (top 61), [], []⟩, ["_law_deck_here", "_law_wide", "_law_high", "_law_x", "_law_y"], ["_law_deck_here", "_law_wide", "_law_high"], f32⟩
def x33 : Df := ⟨⟨("_law_room", none), "_law_room", "_law_room", defArgs (top 62), defBody (top 62), defScope (top 62), [], []⟩, ["_law_deck_here", "_law_wide", "_law_high", "_law_days", "_law_first"], ["_law_deck_here", "_law_wide", "_law_high", "_law_days"], f33⟩
def x34 : Df := ⟨⟨("_law_sizes", none), "_law_sizes", "_law_sizes", defArgs (top 63), defBody (top 63), defScope (top 63), [], []⟩, ["_law_deck_here", "_law_way_here"], ["_law_deck_here"], f34⟩
def x35 : Df := ⟨⟨("_law_heights", none), "_law_heights", "_law_heights", defArgs (top 64), defBody (top 64), defScope (top 64), [], []⟩, ["_law_deck_here", "_law_wide", "_law_high", "_law_way_here", "_law_rows", "_law_y", "_law_x"], ["_law_deck_here", "_law_wide", "_law_high"], f35⟩
def x36 : Df := ⟨⟨("_law_pads", none), "_law_pads", "_law_pads", defArgs (top 65), defBody (top 65), defScope (top 65), [], []⟩, ["_law_deck_here", "_law_wide", "_law_high", "_law_first", "_law_found", "_law_other", "_law_apart_here"], ["_law_deck_here", "_law_wide", "_law_high"], f36⟩
def x37 : Df := ⟨⟨("_law_fields", none), "_law_fields", "_law_fields", defArgs (top 66), defBody (top 66), defScope (top 66), [], []⟩, ["_law_deck_here", "_law_heavy", "_law_wide", "_law_high", "_law_days", "_law_some", "_law_k"], ["_law_deck_here", "_law_heavy"], f37⟩
def x65 : Df := ⟨⟨("_law_has", none), "_law_has", "_law_has", defArgs (top 67), defBody (top 67), defScope (top 67), [], []⟩, ["_law_box_here", "_law_x", "_law_y"], ["_law_box_here", "_law_x", "_law_y"], f65⟩
def x66 : Df := ⟨⟨("_law_pad_at", none), "_law_pad_at", "_law_pad_at", defArgs (top 68), defBody (top 68), defScope (top 68), [], []⟩, ["_law_fields_here", "_law_x", "_law_y", "_law_found", "_law_k", "_law_pad"], ["_law_fields_here", "_law_x", "_law_y"], f66⟩
def x67 : Df := ⟨⟨("_law_hurts", none), "_law_hurts", "_law_hurts", defArgs (top 69), defBody (top 69), defScope (top 69), [], []⟩, ["_law_fields_here", "_law_x", "_law_y", "_law_beat_here", "_law_ceiling", "_law_a", "_law_b", "_law_c", "_law_d", "_law_first", "_law_last_here", "_law_room_here"], ["_law_fields_here", "_law_x", "_law_y", "_law_beat_here", "_law_ceiling"], f67⟩
def x85 : Df := ⟨⟨("_law_lets", none), "_law_lets", "_law_lets", defArgs (top 70), defBody (top 70), defScope (top 70), [], []⟩, ["_law_deck_here", "_law_way_here", "_law_a", "_law_b"], ["_law_deck_here", "_law_way_here"], f85⟩
def x86 : Df := ⟨⟨("_law_blowing", none), "_law_blowing", "_law_blowing", defArgs (top 71), defBody (top 71), defScope (top 71), [], []⟩, ["_law_deck_here", "_law_fields_here", "_law_many", "_law_wide", "_law_high", "_law_days", "_law_found", "_law_k", "_law_room_here"], ["_law_deck_here", "_law_fields_here", "_law_many"], f86⟩
def x87 : Df := ⟨⟨("_law_winds_at", none), "_law_winds_at", "_law_winds_at", defArgs (top 72), defBody (top 72), defScope (top 72), [], []⟩, ["_law_rows", "_law_x", "_law_y", "_law_beat_here", "_law_room_here", "_law_a", "_law_b", "_law_c", "_law_d", "_law_k"], ["_law_rows", "_law_x", "_law_y", "_law_beat_here"], f87⟩
def x38 : Df := ⟨⟨("_law_task", none), "_law_task", "_law_task", defArgs (top 73), defBody (top 73), defScope (top 73), [], []⟩, ["_law_deck_here", "_law_fields_here", "_law_wide", "_law_high", "_law_days", "_law_way_here", "_law_box_here", "_law_other", "_law_first", "_law_last_here", "_law_some"], ["_law_deck_here", "_law_fields_here"], f38⟩
def x39 : Df := ⟨⟨("_law_last", none), "_law_last", "_law_last", defArgs (top 74), defBody (top 74), defScope (top 74), [], []⟩, ["_law_task_here"], ["_law_task_here"], f39⟩
def x68 : Df := ⟨⟨("_law_step", none), "_law_step", "_law_step", defArgs (top 75), defBody (top 75), defScope (top 75), [], []⟩, ["_law_task_here", "_law_step_here", "_law_x", "_law_y", "_law_beat_here", "_law_during", "_law_box_here"], ["_law_task_here", "_law_step_here", "_law_x", "_law_y", "_law_beat_here"], f68⟩
def x69 : Df := ⟨⟨("_law_load", none), "_law_load", "_law_load", defArgs (top 76), defBody (top 76), defScope (top 76), [], []⟩, ["_law_task_here", "_law_step_here"], ["_law_task_here", "_law_step_here"], f69⟩
def x40 : Df := ⟨⟨("_law_way", none), "_law_way", "_law_way", defArgs (top 77), defBody (top 77), defScope (top 77), [], []⟩, ["_law_deck_here", "_law_fields_here", "_law_many", "_law_found", "_law_k", "_law_word"], ["_law_deck_here", "_law_fields_here", "_law_many"], f40⟩
def x41 : Df := ⟨⟨("_law_flight", none), "_law_flight", "_law_flight", defArgs (top 78), defBody (top 78), defScope (top 78), [], []⟩, ["_law_deck_here", "_law_fields_here", "_law_mild", "_law_pads_here", "_law_task_here", "_law_home", "_law_flyer", "_law_x", "_law_y", "_law_charge", "_law_own_way", "_law_step_here", "_law_row_here"], ["_law_deck_here", "_law_fields_here", "_law_mild"], f41⟩
def x42 : Df := ⟨⟨("_law_row", none), "_law_row", "_law_row", defArgs (top 79), defBody (top 79), defScope (top 79), [], []⟩, ["_law_ours", "_law_start", "_law_beat_here", "_law_turned", "_law_k"], ["_law_ours", "_law_start", "_law_beat_here", "_law_turned"], f42⟩
def x43 : Df := ⟨⟨("_law_wish", none), "_law_wish", "_law_wish", defArgs (top 80), defBody (top 80), defScope (top 80), [], []⟩, ["_law_fields_here", "_law_ours", "_law_row_here", "_law_x", "_law_y", "_law_reach", "_law_a", "_law_b", "_law_c", "_law_d", "_law_many", "_law_wants", "_law_one"], ["_law_fields_here", "_law_ours", "_law_row_here", "_law_x", "_law_y"], f43⟩
def x70 : Df := ⟨⟨("_law_stands", none), "_law_stands", "_law_stands", defArgs (top 81), defBody (top 81), defScope (top 81), [], []⟩, ["_law_fields_here", "_law_ours", "_law_row_here", "_law_x", "_law_y"], ["_law_fields_here", "_law_ours", "_law_row_here", "_law_x", "_law_y"], f70⟩
def x71 : Df := ⟨⟨("_law_beat", none), "_law_beat", "_law_beat", defArgs (top 82), defBody (top 82), defScope (top 82), [], []⟩, ["_law_fields_here", "_law_ours", "_law_row_here", "_law_beat_here", "_law_state", "_law_wind", "_law_reach", "_law_ceiling", "_law_full", "_law_gain", "_law_task_here", "_law_x", "_law_y", "_law_step_here", "_law_charge", "_law_word", "_law_a", "_law_b", "_law_against"], ["_law_fields_here", "_law_ours", "_law_row_here", "_law_beat_here", "_law_state", "_law_wind"], f71⟩
def x88 : Df := ⟨⟨("_law_home_at", none), "_law_home_at", "_law_home_at", defArgs (top 83), defBody (top 83), defScope (top 83), [], []⟩, ["_law_fields_here", "_law_ours", "_law_x", "_law_y"], ["_law_fields_here", "_law_ours", "_law_x", "_law_y"], f88⟩
def x89 : Df := ⟨⟨("_law_run", none), "_law_run", "_law_run", defArgs (top 84), defBody (top 84), defScope (top 84), [], []⟩, ["_law_deck_here", "_law_fields_here", "_law_rows", "_law_ours", "_law_start", "_law_turned", "_law_winds_here", "_law_states", "_law_word", "_law_beat_here", "_law_here", "_law_wind", "_law_behind"], ["_law_deck_here", "_law_fields_here", "_law_rows", "_law_ours", "_law_start", "_law_turned"], f89⟩
def x44 : Df := ⟨⟨("_law_made", none), "_law_made", "_law_made", defArgs (top 85), defBody (top 85), defScope (top 85), [], []⟩, ["_law_fields_here", "_law_own"], ["_law_fields_here"], f44⟩
def x90 : Df := ⟨⟨("_law_walked", none), "_law_walked", "_law_walked", defArgs (top 86), defBody (top 86), defScope (top 86), [], []⟩, ["_law_fields_here", "_law_rows", "_law_ours", "_law_start", "_law_own_thing", "_law_turned", "_law_states", "_law_word", "_law_k", "_law_wind", "_law_whole", "_law_x", "_law_y", "_law_step_here", "_law_charge", "_law_row_here", "_law_behind", "_law_one"], ["_law_fields_here", "_law_rows", "_law_ours", "_law_start", "_law_own_thing", "_law_turned"], f90⟩
def x91 : Df := ⟨⟨("_law_thing", none), "_law_thing", "_law_thing", defArgs (top 87), defBody (top 87), defScope (top 87), [], []⟩, ["_law_deck_here", "_law_winds_here", "_law_sort", "_law_at", "_law_more", "_law_k", "_law_a", "_law_b"], ["_law_deck_here", "_law_winds_here"], f91⟩
def x92 : Df := ⟨⟨("law", none), "law", "law", defArgs (top 88), defBody (top 88), defScope (top 88), [], []⟩, ["_law_script", "_law_deck_here", "_law_k", "_law_fields_here", "_law_rows", "_law_own_land", "_law_own_flight", "_law_start", "_law_again", "_law_turned", "_law_winds_here", "_law_own_thing", "_law_kept", "_law_due", "_law_told", "_law_twice", "_law_one"], ["_law_script"], f92⟩
def dfs : List (Nat × Df) := [(0, x0), (1, x1), (2, x2), (3, x3), (4, x4), (5, x5), (6, x6), (49, x49), (7, x7), (8, x8), (9, x9), (50, x50), (51, x51), (10, x10), (11, x11), (52, x52), (53, x53), (54, x54), (55, x55), (56, x56), (57, x57), (58, x58), (59, x59), (28, x28), (29, x29), (30, x30), (31, x31), (60, x60), (61, x61), (62, x62), (63, x63), (64, x64), (75, x75), (76, x76), (77, x77), (78, x78), (79, x79), (80, x80), (81, x81), (82, x82), (83, x83), (84, x84), (15, x15), (16, x16), (17, x17), (32, x32), (33, x33), (34, x34), (35, x35), (36, x36), (37, x37), (65, x65), (66, x66), (67, x67), (85, x85), (86, x86), (87, x87), (38, x38), (39, x39), (68, x68), (69, x69), (40, x40), (41, x41), (42, x42), (43, x43), (70, x70), (71, x71), (88, x88), (89, x89), (44, x44), (90, x90), (91, x91), (92, x92)]
def gls : List (Str × D) := [(("MOST_ROOMS" : Str), (D.int 8)), (("MOST_HEIGHT" : Str), (D.int 9)), (("MOST_ON_PAD" : Str), (D.int 4)), (("MOST_PADS" : Str), (D.int 4)), (("MOST_SQUARES" : Str), (D.int 12)), (("MOST_DAY" : Str), (D.int 24)), (("LAST_STEPS" : Str), (D.kdc [("look", (D.int 1)), ("bring", (D.int 2))])), (("HOME" : Str), (D.tup [(D.str "home")])), (("GO" : Str), (D.str "go")), (("STAND" : Str), (D.str "stand")), (("NO_PAD" : Str), (D.str "nopad")), (("EMPTY" : Str), (D.str "empty")), (("LATE" : Str), (D.str "late"))]
def clsN : List (Nat × Str) := [(0, "Land"), (1, "Walk")]
def clsOf (K : PySem.W.Frag) (c : Nat) : Option Addr := (clsN.lookup c).map (He.ga K)
def cs : List CS := [⟨0, 1, [], [.vi 0]⟩, ⟨2, 2, [], [.vi 0, .vi 1]⟩, ⟨3, 2, [], [.vi 0, .vi 1]⟩, ⟨4, 2, [], [.vi 0, .vi 1]⟩, ⟨1, 3, [], [.vi 0, .vi 1, .vi 2]⟩, ⟨8, 2, [], [.vi 0, .vi 1]⟩, ⟨7, 2, [], [.vi 0, .vi 1]⟩, ⟨49, 3, [], [.vi 0, .vi 1, .vi 2]⟩, ⟨50, 4, [], [.vi 0, .vi 1, .vi 2, .vi 3]⟩, ⟨10, 2, [], [.vi 0, .vi 1]⟩, ⟨6, 2, [], [.vi 0, .vi 1]⟩, ⟨5, 2, [], [.vi 0, .vi 1]⟩, ⟨9, 2, [], [.vi 0, .vi 1]⟩, ⟨51, 4, [], [.vi 0, .vi 1, .vi 2, .vi 3]⟩, ⟨56, 1, [], [.vi 0]⟩, ⟨57, 2, [], [.vi 0, .vi 1]⟩, ⟨30, 1, [], [.vi 0]⟩, ⟨29, 2, [], [.vi 0, .vi 1]⟩, ⟨59, 2, [], [.vi 0, .vi 1]⟩, ⟨60, 5, [], [.vi 0, .vi 1, .vi 2, .vi 3, .vi 4]⟩, ⟨31, 5, [], [.vi 0, .vi 1, .vi 2, .vi 3, .vi 4]⟩, ⟨61, 4, [], [.vi 0, .vi 1, .vi 2, .vi 3]⟩, ⟨58, 5, [], [.vi 0, .vi 1, .vi 2, .vi 3, .vi 4]⟩, ⟨62, 5, [], [.vi 0, .vi 1, .vi 2, .vi 3, .vi 4]⟩, ⟨63, 5, [], [.vi 0, .vi 1, .vi 2, .vi 3, .vi 4]⟩, ⟨75, 1, [], [.vi 0]⟩, ⟨76, 4, [], [.vi 0, .vi 1, .vi 2, .vi 3]⟩, ⟨28, 3, ["turn"], [.vi 0, .vi 1, .vi 2, .vi 3]⟩, ⟨64, 6, [], [.vi 0, .vi 1, .vi 2, .vi 3, .vi 4, .vi 5]⟩, ⟨77, 3, [], [.vi 0, .vi 1, .vi 2]⟩, ⟨78, 4, [], [.vi 0, .vi 1, .vi 2, .vi 3]⟩, ⟨16, 2, [], [.vi 0, .vi 1]⟩, ⟨32, 3, [], [.vi 0, .vi 1, .vi 2]⟩, ⟨34, 1, [], [.vi 0]⟩, ⟨35, 3, [], [.vi 0, .vi 1, .vi 2]⟩, ⟨33, 4, [], [.vi 0, .vi 1, .vi 2, .vi 3]⟩, ⟨36, 3, [], [.vi 0, .vi 1, .vi 2]⟩, ⟨65, 3, [], [.vi 0, .vi 1, .vi 2]⟩, ⟨85, 2, [], [.vi 0, .vi 1]⟩, ⟨39, 1, [], [.vi 0]⟩, ⟨17, 2, [], [.vi 0, .vi 1]⟩, ⟨38, 2, [], [.vi 0, .vi 1]⟩, ⟨40, 3, [], [.vi 0, .vi 1, .vi 2]⟩, ⟨66, 3, [], [.vi 0, .vi 1, .vi 2]⟩, ⟨70, 5, [], [.vi 0, .vi 1, .vi 2, .vi 3, .vi 4]⟩, ⟨43, 5, [], [.vi 0, .vi 1, .vi 2, .vi 3, .vi 4]⟩, ⟨69, 2, [], [.vi 0, .vi 1]⟩, ⟨67, 5, [], [.vi 0, .vi 1, .vi 2, .vi 3, .vi 4]⟩, ⟨68, 5, [], [.vi 0, .vi 1, .vi 2, .vi 3, .vi 4]⟩, ⟨87, 4, [], [.vi 0, .vi 1, .vi 2, .vi 3]⟩, ⟨71, 6, [], [.vi 0, .vi 1, .vi 2, .vi 3, .vi 4, .vi 5]⟩, ⟨42, 4, [], [.vi 0, .vi 1, .vi 2, .vi 3]⟩, ⟨88, 4, [], [.vi 0, .vi 1, .vi 2, .vi 3]⟩, ⟨15, 1, [], [.vi 0]⟩, ⟨37, 2, [], [.vi 0, .vi 1]⟩, ⟨86, 3, [], [.vi 0, .vi 1, .vi 2]⟩, ⟨44, 1, [], [.vi 0]⟩, ⟨41, 3, [], [.vi 0, .vi 1, .vi 2]⟩, ⟨89, 6, [], [.vi 0, .vi 1, .vi 2, .vi 3, .vi 4, .vi 5]⟩, ⟨91, 2, [], [.vi 0, .vi 1]⟩, ⟨90, 6, [], [.vi 0, .vi 1, .vi 2, .vi 3, .vi 4, .vi 5]⟩, ⟨84, 5, ["turn"], [.vi 0, .vi 1, .vi 2, .vi 3, .vi 4, .vi 5]⟩, ⟨84, 5, [], [.vi 0, .vi 1, .vi 2, .vi 3, .vi 4, .dv D.non]⟩, ⟨84, 0, ["thing", "since", "flight", "winds", "land"], [.vi 4, .vi 3, .vi 2, .vi 1, .vi 0, .dv D.non]⟩]
def na : List (Nat × Str) := [(0, ("wide" : Str)), (0, ("high" : Str)), (0, ("day" : Str)), (0, ("heights" : Str)), (0, ("barred" : Str)), (0, ("people" : Str)), (0, ("pads" : Str)), (1, ("land_below" : Str)), (1, ("flight_gone" : Str)), (1, ("begun_at" : Str)), (1, ("turned_at" : Str)), (1, ("beat_now" : Str)), (1, ("states_so_far" : Str)), (1, ("word_now" : Str))]
def mks : List MK := [⟨"Walk", 1, ⟨79, 5, [], [.vi 0, .vi 1, .vi 2, .vi 3, .vi 4]⟩⟩, ⟨"Land", 0, ⟨11, 3, ["day", "heights", "barred", "people", "pads"], [.vi 0, .vi 1, .vi 2, .vi 3, .vi 4, .vi 5, .vi 6, .vi 7]⟩⟩]
def mts : List MT := [⟨0, "has", ⟨52, 3, [], [.vi 0, .vi 1, .vi 2]⟩⟩, ⟨0, "height_at", ⟨53, 3, [], [.vi 0, .vi 1, .vi 2]⟩⟩, ⟨0, "pad_at", ⟨54, 3, [], [.vi 0, .vi 1, .vi 2]⟩⟩, ⟨0, "hurts", ⟨55, 5, [], [.vi 0, .vi 1, .vi 2, .vi 3, .vi 4]⟩⟩, ⟨1, "last_state", ⟨80, 1, [], [.vi 0]⟩⟩, ⟨1, "is_ended", ⟨81, 1, [], [.vi 0]⟩⟩, ⟨1, "go_on", ⟨82, 2, [], [.vi 0, .vi 1]⟩⟩, ⟨1, "told_so_far", ⟨83, 1, [], [.vi 0]⟩⟩]
def tb : Tb := ⟨[(0, ("is_whole" : Str)), (1, ("is_within" : Str)), (2, ("are_wholes" : Str)), (3, ("is_box" : Str)), (4, ("is_room" : Str)), (5, ("are_rooms" : Str)), (6, ("are_heights" : Str)), (49, ("has_square" : Str)), (7, ("do_share" : Str)), (8, ("is_pad" : Str)), (9, ("are_pads" : Str)), (50, ("is_in" : Str)), (51, ("is_beside" : Str)), (10, ("need_field" : Str)), (56, ("last_step" : Str)), (57, ("box_for" : Str)), (58, ("step_by" : Str)), (59, ("load_of" : Str)), (28, ("row_at" : Str)), (29, ("no_further" : Str)), (30, ("middle_of" : Str)), (31, ("wish_of" : Str)), (60, ("is_standing" : Str)), (61, ("cost_of" : Str)), (62, ("carried" : Str)), (63, ("arrived" : Str)), (64, ("beat_done" : Str)), (75, ("let_by_bounds" : Str)), (76, ("winds_at" : Str)), (77, ("is_home" : Str)), (78, ("is_wind_at" : Str)), (84, ("walked" : Str)), (15, ("_law_deck" : Str)), (16, ("_law_draw" : Str)), (17, ("_law_pick" : Str)), (32, ("_law_box" : Str)), (33, ("_law_room" : Str)), (34, ("_law_sizes" : Str)), (35, ("_law_heights" : Str)), (36, ("_law_pads" : Str)), (37, ("_law_fields" : Str)), (65, ("_law_has" : Str)), (66, ("_law_pad_at" : Str)), (67, ("_law_hurts" : Str)), (85, ("_law_lets" : Str)), (86, ("_law_blowing" : Str)), (87, ("_law_winds_at" : Str)), (38, ("_law_task" : Str)), (39, ("_law_last" : Str)), (68, ("_law_step" : Str)), (69, ("_law_load" : Str)), (40, ("_law_way" : Str)), (41, ("_law_flight" : Str)), (42, ("_law_row" : Str)), (43, ("_law_wish" : Str)), (70, ("_law_stands" : Str)), (71, ("_law_beat" : Str)), (88, ("_law_home_at" : Str)), (89, ("_law_run" : Str)), (44, ("_law_made" : Str)), (90, ("_law_walked" : Str)), (91, ("_law_thing" : Str)), (92, ("law" : Str))], cs, gls, na, mks, mts⟩
theorem looked (x : Nat × Df) (h : x ∈ dfs) : okDf tb x.2 = true := by
  have z : dfs.all (fun x => okDf tb x.2) = true := by kernel_rfl
  exact List.all_eq_true.mp z x h
def ks : List ((PySem.W.Frag → Addr) × D) := [(kwdAt ("Land", some "__init__") "barred", (D.tup [])), (kwdAt ("Land", some "__init__") "people", (D.tup [])), (kwdAt ("Land", some "__init__") "pads", (D.tup []))]
theorem cb0 {G : Cr} (kso : ksB ks G.K = true) (fd : FuncData) (F : FunOf G.K x0 fd) : CB G fd x0.ps 1 [] [.vi 0] := by
  refine cb_of F rfl fun kV doc pm an cdv ct us ws h1 h2 => ?_
  exact match us, ws, h1, h2 with
  | [u0], [], _, _ => ⟨[u0], by kernel_rfl, (.vi rfl .nil), rfl⟩
theorem cb1 {G : Cr} (kso : ksB ks G.K = true) (fd : FuncData) (F : FunOf G.K x2 fd) : CB G fd x2.ps 2 [] [.vi 0, .vi 1] := by
  refine cb_of F rfl fun kV doc pm an cdv ct us ws h1 h2 => ?_
  exact match us, ws, h1, h2 with
  | [u0, u1], [], _, _ => ⟨[u0, u1], by kernel_rfl, (.vi rfl (.vi rfl .nil)), rfl⟩
theorem cb2 {G : Cr} (kso : ksB ks G.K = true) (fd : FuncData) (F : FunOf G.K x3 fd) : CB G fd x3.ps 2 [] [.vi 0, .vi 1] := by
  refine cb_of F rfl fun kV doc pm an cdv ct us ws h1 h2 => ?_
  exact match us, ws, h1, h2 with
  | [u0, u1], [], _, _ => ⟨[u0, u1], by kernel_rfl, (.vi rfl (.vi rfl .nil)), rfl⟩
theorem cb3 {G : Cr} (kso : ksB ks G.K = true) (fd : FuncData) (F : FunOf G.K x4 fd) : CB G fd x4.ps 2 [] [.vi 0, .vi 1] := by
  refine cb_of F rfl fun kV doc pm an cdv ct us ws h1 h2 => ?_
  exact match us, ws, h1, h2 with
  | [u0, u1], [], _, _ => ⟨[u0, u1], by kernel_rfl, (.vi rfl (.vi rfl .nil)), rfl⟩
theorem cb4 {G : Cr} (kso : ksB ks G.K = true) (fd : FuncData) (F : FunOf G.K x1 fd) : CB G fd x1.ps 3 [] [.vi 0, .vi 1, .vi 2] := by
  refine cb_of F rfl fun kV doc pm an cdv ct us ws h1 h2 => ?_
  exact match us, ws, h1, h2 with
  | [u0, u1, u2], [], _, _ => ⟨[u0, u1, u2], by kernel_rfl, (.vi rfl (.vi rfl (.vi rfl .nil))), rfl⟩
theorem cb5 {G : Cr} (kso : ksB ks G.K = true) (fd : FuncData) (F : FunOf G.K x8 fd) : CB G fd x8.ps 2 [] [.vi 0, .vi 1] := by
  refine cb_of F rfl fun kV doc pm an cdv ct us ws h1 h2 => ?_
  exact match us, ws, h1, h2 with
  | [u0, u1], [], _, _ => ⟨[u0, u1], by kernel_rfl, (.vi rfl (.vi rfl .nil)), rfl⟩
theorem cb6 {G : Cr} (kso : ksB ks G.K = true) (fd : FuncData) (F : FunOf G.K x7 fd) : CB G fd x7.ps 2 [] [.vi 0, .vi 1] := by
  refine cb_of F rfl fun kV doc pm an cdv ct us ws h1 h2 => ?_
  exact match us, ws, h1, h2 with
  | [u0, u1], [], _, _ => ⟨[u0, u1], by kernel_rfl, (.vi rfl (.vi rfl .nil)), rfl⟩
theorem cb7 {G : Cr} (kso : ksB ks G.K = true) (fd : FuncData) (F : FunOf G.K x49 fd) : CB G fd x49.ps 3 [] [.vi 0, .vi 1, .vi 2] := by
  refine cb_of F rfl fun kV doc pm an cdv ct us ws h1 h2 => ?_
  exact match us, ws, h1, h2 with
  | [u0, u1, u2], [], _, _ => ⟨[u0, u1, u2], by kernel_rfl, (.vi rfl (.vi rfl (.vi rfl .nil))), rfl⟩
theorem cb8 {G : Cr} (kso : ksB ks G.K = true) (fd : FuncData) (F : FunOf G.K x50 fd) : CB G fd x50.ps 4 [] [.vi 0, .vi 1, .vi 2, .vi 3] := by
  refine cb_of F rfl fun kV doc pm an cdv ct us ws h1 h2 => ?_
  exact match us, ws, h1, h2 with
  | [u0, u1, u2, u3], [], _, _ => ⟨[u0, u1, u2, u3], by kernel_rfl, (.vi rfl (.vi rfl (.vi rfl (.vi rfl .nil)))), rfl⟩
theorem cb9 {G : Cr} (kso : ksB ks G.K = true) (fd : FuncData) (F : FunOf G.K x10 fd) : CB G fd x10.ps 2 [] [.vi 0, .vi 1] := by
  refine cb_of F rfl fun kV doc pm an cdv ct us ws h1 h2 => ?_
  exact match us, ws, h1, h2 with
  | [u0, u1], [], _, _ => ⟨[u0, u1], by kernel_rfl, (.vi rfl (.vi rfl .nil)), rfl⟩
theorem cb10 {G : Cr} (kso : ksB ks G.K = true) (fd : FuncData) (F : FunOf G.K x6 fd) : CB G fd x6.ps 2 [] [.vi 0, .vi 1] := by
  refine cb_of F rfl fun kV doc pm an cdv ct us ws h1 h2 => ?_
  exact match us, ws, h1, h2 with
  | [u0, u1], [], _, _ => ⟨[u0, u1], by kernel_rfl, (.vi rfl (.vi rfl .nil)), rfl⟩
theorem cb11 {G : Cr} (kso : ksB ks G.K = true) (fd : FuncData) (F : FunOf G.K x5 fd) : CB G fd x5.ps 2 [] [.vi 0, .vi 1] := by
  refine cb_of F rfl fun kV doc pm an cdv ct us ws h1 h2 => ?_
  exact match us, ws, h1, h2 with
  | [u0, u1], [], _, _ => ⟨[u0, u1], by kernel_rfl, (.vi rfl (.vi rfl .nil)), rfl⟩
theorem cb12 {G : Cr} (kso : ksB ks G.K = true) (fd : FuncData) (F : FunOf G.K x9 fd) : CB G fd x9.ps 2 [] [.vi 0, .vi 1] := by
  refine cb_of F rfl fun kV doc pm an cdv ct us ws h1 h2 => ?_
  exact match us, ws, h1, h2 with
  | [u0, u1], [], _, _ => ⟨[u0, u1], by kernel_rfl, (.vi rfl (.vi rfl .nil)), rfl⟩
theorem cb13 {G : Cr} (kso : ksB ks G.K = true) (fd : FuncData) (F : FunOf G.K x51 fd) : CB G fd x51.ps 4 [] [.vi 0, .vi 1, .vi 2, .vi 3] := by
  refine cb_of F rfl fun kV doc pm an cdv ct us ws h1 h2 => ?_
  exact match us, ws, h1, h2 with
  | [u0, u1, u2, u3], [], _, _ => ⟨[u0, u1, u2, u3], by kernel_rfl, (.vi rfl (.vi rfl (.vi rfl (.vi rfl .nil)))), rfl⟩
theorem cb14 {G : Cr} (kso : ksB ks G.K = true) (fd : FuncData) (F : FunOf G.K x56 fd) : CB G fd x56.ps 1 [] [.vi 0] := by
  refine cb_of F rfl fun kV doc pm an cdv ct us ws h1 h2 => ?_
  exact match us, ws, h1, h2 with
  | [u0], [], _, _ => ⟨[u0], by kernel_rfl, (.vi rfl .nil), rfl⟩
theorem cb15 {G : Cr} (kso : ksB ks G.K = true) (fd : FuncData) (F : FunOf G.K x57 fd) : CB G fd x57.ps 2 [] [.vi 0, .vi 1] := by
  refine cb_of F rfl fun kV doc pm an cdv ct us ws h1 h2 => ?_
  exact match us, ws, h1, h2 with
  | [u0, u1], [], _, _ => ⟨[u0, u1], by kernel_rfl, (.vi rfl (.vi rfl .nil)), rfl⟩
theorem cb16 {G : Cr} (kso : ksB ks G.K = true) (fd : FuncData) (F : FunOf G.K x30 fd) : CB G fd x30.ps 1 [] [.vi 0] := by
  refine cb_of F rfl fun kV doc pm an cdv ct us ws h1 h2 => ?_
  exact match us, ws, h1, h2 with
  | [u0], [], _, _ => ⟨[u0], by kernel_rfl, (.vi rfl .nil), rfl⟩
theorem cb17 {G : Cr} (kso : ksB ks G.K = true) (fd : FuncData) (F : FunOf G.K x29 fd) : CB G fd x29.ps 2 [] [.vi 0, .vi 1] := by
  refine cb_of F rfl fun kV doc pm an cdv ct us ws h1 h2 => ?_
  exact match us, ws, h1, h2 with
  | [u0, u1], [], _, _ => ⟨[u0, u1], by kernel_rfl, (.vi rfl (.vi rfl .nil)), rfl⟩
theorem cb18 {G : Cr} (kso : ksB ks G.K = true) (fd : FuncData) (F : FunOf G.K x59 fd) : CB G fd x59.ps 2 [] [.vi 0, .vi 1] := by
  refine cb_of F rfl fun kV doc pm an cdv ct us ws h1 h2 => ?_
  exact match us, ws, h1, h2 with
  | [u0, u1], [], _, _ => ⟨[u0, u1], by kernel_rfl, (.vi rfl (.vi rfl .nil)), rfl⟩
theorem cb19 {G : Cr} (kso : ksB ks G.K = true) (fd : FuncData) (F : FunOf G.K x60 fd) : CB G fd x60.ps 5 [] [.vi 0, .vi 1, .vi 2, .vi 3, .vi 4] := by
  refine cb_of F rfl fun kV doc pm an cdv ct us ws h1 h2 => ?_
  exact match us, ws, h1, h2 with
  | [u0, u1, u2, u3, u4], [], _, _ => ⟨[u0, u1, u2, u3, u4], by kernel_rfl, (.vi rfl (.vi rfl (.vi rfl (.vi rfl (.vi rfl .nil))))), rfl⟩
theorem cb20 {G : Cr} (kso : ksB ks G.K = true) (fd : FuncData) (F : FunOf G.K x31 fd) : CB G fd x31.ps 5 [] [.vi 0, .vi 1, .vi 2, .vi 3, .vi 4] := by
  refine cb_of F rfl fun kV doc pm an cdv ct us ws h1 h2 => ?_
  exact match us, ws, h1, h2 with
  | [u0, u1, u2, u3, u4], [], _, _ => ⟨[u0, u1, u2, u3, u4], by kernel_rfl, (.vi rfl (.vi rfl (.vi rfl (.vi rfl (.vi rfl .nil))))), rfl⟩
theorem cb21 {G : Cr} (kso : ksB ks G.K = true) (fd : FuncData) (F : FunOf G.K x61 fd) : CB G fd x61.ps 4 [] [.vi 0, .vi 1, .vi 2, .vi 3] := by
  refine cb_of F rfl fun kV doc pm an cdv ct us ws h1 h2 => ?_
  exact match us, ws, h1, h2 with
  | [u0, u1, u2, u3], [], _, _ => ⟨[u0, u1, u2, u3], by kernel_rfl, (.vi rfl (.vi rfl (.vi rfl (.vi rfl .nil)))), rfl⟩
theorem cb22 {G : Cr} (kso : ksB ks G.K = true) (fd : FuncData) (F : FunOf G.K x58 fd) : CB G fd x58.ps 5 [] [.vi 0, .vi 1, .vi 2, .vi 3, .vi 4] := by
  refine cb_of F rfl fun kV doc pm an cdv ct us ws h1 h2 => ?_
  exact match us, ws, h1, h2 with
  | [u0, u1, u2, u3, u4], [], _, _ => ⟨[u0, u1, u2, u3, u4], by kernel_rfl, (.vi rfl (.vi rfl (.vi rfl (.vi rfl (.vi rfl .nil))))), rfl⟩
theorem cb23 {G : Cr} (kso : ksB ks G.K = true) (fd : FuncData) (F : FunOf G.K x62 fd) : CB G fd x62.ps 5 [] [.vi 0, .vi 1, .vi 2, .vi 3, .vi 4] := by
  refine cb_of F rfl fun kV doc pm an cdv ct us ws h1 h2 => ?_
  exact match us, ws, h1, h2 with
  | [u0, u1, u2, u3, u4], [], _, _ => ⟨[u0, u1, u2, u3, u4], by kernel_rfl, (.vi rfl (.vi rfl (.vi rfl (.vi rfl (.vi rfl .nil))))), rfl⟩
theorem cb24 {G : Cr} (kso : ksB ks G.K = true) (fd : FuncData) (F : FunOf G.K x63 fd) : CB G fd x63.ps 5 [] [.vi 0, .vi 1, .vi 2, .vi 3, .vi 4] := by
  refine cb_of F rfl fun kV doc pm an cdv ct us ws h1 h2 => ?_
  exact match us, ws, h1, h2 with
  | [u0, u1, u2, u3, u4], [], _, _ => ⟨[u0, u1, u2, u3, u4], by kernel_rfl, (.vi rfl (.vi rfl (.vi rfl (.vi rfl (.vi rfl .nil))))), rfl⟩
theorem cb25 {G : Cr} (kso : ksB ks G.K = true) (fd : FuncData) (F : FunOf G.K x75 fd) : CB G fd x75.ps 1 [] [.vi 0] := by
  refine cb_of F rfl fun kV doc pm an cdv ct us ws h1 h2 => ?_
  exact match us, ws, h1, h2 with
  | [u0], [], _, _ => ⟨[u0], by kernel_rfl, (.vi rfl .nil), rfl⟩
theorem cb26 {G : Cr} (kso : ksB ks G.K = true) (fd : FuncData) (F : FunOf G.K x76 fd) : CB G fd x76.ps 4 [] [.vi 0, .vi 1, .vi 2, .vi 3] := by
  refine cb_of F rfl fun kV doc pm an cdv ct us ws h1 h2 => ?_
  exact match us, ws, h1, h2 with
  | [u0, u1, u2, u3], [], _, _ => ⟨[u0, u1, u2, u3], by kernel_rfl, (.vi rfl (.vi rfl (.vi rfl (.vi rfl .nil)))), rfl⟩
theorem cb27 {G : Cr} (kso : ksB ks G.K = true) (fd : FuncData) (F : FunOf G.K x28 fd) : CB G fd x28.ps 3 ["turn"] [.vi 0, .vi 1, .vi 2, .vi 3] := by
  refine cb_of F rfl fun kV doc pm an cdv ct us ws h1 h2 => ?_
  exact match us, ws, h1, h2 with
  | [u0, u1, u2], [w0], _, _ => ⟨[u0, u1, u2, w0], by kernel_rfl, (.vi rfl (.vi rfl (.vi rfl (.vi rfl .nil)))), rfl⟩
theorem cb28 {G : Cr} (kso : ksB ks G.K = true) (fd : FuncData) (F : FunOf G.K x64 fd) : CB G fd x64.ps 6 [] [.vi 0, .vi 1, .vi 2, .vi 3, .vi 4, .vi 5] := by
  refine cb_of F rfl fun kV doc pm an cdv ct us ws h1 h2 => ?_
  exact match us, ws, h1, h2 with
  | [u0, u1, u2, u3, u4, u5], [], _, _ => ⟨[u0, u1, u2, u3, u4, u5], by kernel_rfl, (.vi rfl (.vi rfl (.vi rfl (.vi rfl (.vi rfl (.vi rfl .nil)))))), rfl⟩
theorem cb29 {G : Cr} (kso : ksB ks G.K = true) (fd : FuncData) (F : FunOf G.K x77 fd) : CB G fd x77.ps 3 [] [.vi 0, .vi 1, .vi 2] := by
  refine cb_of F rfl fun kV doc pm an cdv ct us ws h1 h2 => ?_
  exact match us, ws, h1, h2 with
  | [u0, u1, u2], [], _, _ => ⟨[u0, u1, u2], by kernel_rfl, (.vi rfl (.vi rfl (.vi rfl .nil))), rfl⟩
theorem cb30 {G : Cr} (kso : ksB ks G.K = true) (fd : FuncData) (F : FunOf G.K x78 fd) : CB G fd x78.ps 4 [] [.vi 0, .vi 1, .vi 2, .vi 3] := by
  refine cb_of F rfl fun kV doc pm an cdv ct us ws h1 h2 => ?_
  exact match us, ws, h1, h2 with
  | [u0, u1, u2, u3], [], _, _ => ⟨[u0, u1, u2, u3], by kernel_rfl, (.vi rfl (.vi rfl (.vi rfl (.vi rfl .nil)))), rfl⟩
theorem cb31 {G : Cr} (kso : ksB ks G.K = true) (fd : FuncData) (F : FunOf G.K x16 fd) : CB G fd x16.ps 2 [] [.vi 0, .vi 1] := by
  refine cb_of F rfl fun kV doc pm an cdv ct us ws h1 h2 => ?_
  exact match us, ws, h1, h2 with
  | [u0, u1], [], _, _ => ⟨[u0, u1], by kernel_rfl, (.vi rfl (.vi rfl .nil)), rfl⟩
theorem cb32 {G : Cr} (kso : ksB ks G.K = true) (fd : FuncData) (F : FunOf G.K x32 fd) : CB G fd x32.ps 3 [] [.vi 0, .vi 1, .vi 2] := by
  refine cb_of F rfl fun kV doc pm an cdv ct us ws h1 h2 => ?_
  exact match us, ws, h1, h2 with
  | [u0, u1, u2], [], _, _ => ⟨[u0, u1, u2], by kernel_rfl, (.vi rfl (.vi rfl (.vi rfl .nil))), rfl⟩
theorem cb33 {G : Cr} (kso : ksB ks G.K = true) (fd : FuncData) (F : FunOf G.K x34 fd) : CB G fd x34.ps 1 [] [.vi 0] := by
  refine cb_of F rfl fun kV doc pm an cdv ct us ws h1 h2 => ?_
  exact match us, ws, h1, h2 with
  | [u0], [], _, _ => ⟨[u0], by kernel_rfl, (.vi rfl .nil), rfl⟩
theorem cb34 {G : Cr} (kso : ksB ks G.K = true) (fd : FuncData) (F : FunOf G.K x35 fd) : CB G fd x35.ps 3 [] [.vi 0, .vi 1, .vi 2] := by
  refine cb_of F rfl fun kV doc pm an cdv ct us ws h1 h2 => ?_
  exact match us, ws, h1, h2 with
  | [u0, u1, u2], [], _, _ => ⟨[u0, u1, u2], by kernel_rfl, (.vi rfl (.vi rfl (.vi rfl .nil))), rfl⟩
theorem cb35 {G : Cr} (kso : ksB ks G.K = true) (fd : FuncData) (F : FunOf G.K x33 fd) : CB G fd x33.ps 4 [] [.vi 0, .vi 1, .vi 2, .vi 3] := by
  refine cb_of F rfl fun kV doc pm an cdv ct us ws h1 h2 => ?_
  exact match us, ws, h1, h2 with
  | [u0, u1, u2, u3], [], _, _ => ⟨[u0, u1, u2, u3], by kernel_rfl, (.vi rfl (.vi rfl (.vi rfl (.vi rfl .nil)))), rfl⟩
theorem cb36 {G : Cr} (kso : ksB ks G.K = true) (fd : FuncData) (F : FunOf G.K x36 fd) : CB G fd x36.ps 3 [] [.vi 0, .vi 1, .vi 2] := by
  refine cb_of F rfl fun kV doc pm an cdv ct us ws h1 h2 => ?_
  exact match us, ws, h1, h2 with
  | [u0, u1, u2], [], _, _ => ⟨[u0, u1, u2], by kernel_rfl, (.vi rfl (.vi rfl (.vi rfl .nil))), rfl⟩
theorem cb37 {G : Cr} (kso : ksB ks G.K = true) (fd : FuncData) (F : FunOf G.K x65 fd) : CB G fd x65.ps 3 [] [.vi 0, .vi 1, .vi 2] := by
  refine cb_of F rfl fun kV doc pm an cdv ct us ws h1 h2 => ?_
  exact match us, ws, h1, h2 with
  | [u0, u1, u2], [], _, _ => ⟨[u0, u1, u2], by kernel_rfl, (.vi rfl (.vi rfl (.vi rfl .nil))), rfl⟩
theorem cb38 {G : Cr} (kso : ksB ks G.K = true) (fd : FuncData) (F : FunOf G.K x85 fd) : CB G fd x85.ps 2 [] [.vi 0, .vi 1] := by
  refine cb_of F rfl fun kV doc pm an cdv ct us ws h1 h2 => ?_
  exact match us, ws, h1, h2 with
  | [u0, u1], [], _, _ => ⟨[u0, u1], by kernel_rfl, (.vi rfl (.vi rfl .nil)), rfl⟩
theorem cb39 {G : Cr} (kso : ksB ks G.K = true) (fd : FuncData) (F : FunOf G.K x39 fd) : CB G fd x39.ps 1 [] [.vi 0] := by
  refine cb_of F rfl fun kV doc pm an cdv ct us ws h1 h2 => ?_
  exact match us, ws, h1, h2 with
  | [u0], [], _, _ => ⟨[u0], by kernel_rfl, (.vi rfl .nil), rfl⟩
theorem cb40 {G : Cr} (kso : ksB ks G.K = true) (fd : FuncData) (F : FunOf G.K x17 fd) : CB G fd x17.ps 2 [] [.vi 0, .vi 1] := by
  refine cb_of F rfl fun kV doc pm an cdv ct us ws h1 h2 => ?_
  exact match us, ws, h1, h2 with
  | [u0, u1], [], _, _ => ⟨[u0, u1], by kernel_rfl, (.vi rfl (.vi rfl .nil)), rfl⟩
theorem cb41 {G : Cr} (kso : ksB ks G.K = true) (fd : FuncData) (F : FunOf G.K x38 fd) : CB G fd x38.ps 2 [] [.vi 0, .vi 1] := by
  refine cb_of F rfl fun kV doc pm an cdv ct us ws h1 h2 => ?_
  exact match us, ws, h1, h2 with
  | [u0, u1], [], _, _ => ⟨[u0, u1], by kernel_rfl, (.vi rfl (.vi rfl .nil)), rfl⟩
theorem cb42 {G : Cr} (kso : ksB ks G.K = true) (fd : FuncData) (F : FunOf G.K x40 fd) : CB G fd x40.ps 3 [] [.vi 0, .vi 1, .vi 2] := by
  refine cb_of F rfl fun kV doc pm an cdv ct us ws h1 h2 => ?_
  exact match us, ws, h1, h2 with
  | [u0, u1, u2], [], _, _ => ⟨[u0, u1, u2], by kernel_rfl, (.vi rfl (.vi rfl (.vi rfl .nil))), rfl⟩
theorem cb43 {G : Cr} (kso : ksB ks G.K = true) (fd : FuncData) (F : FunOf G.K x66 fd) : CB G fd x66.ps 3 [] [.vi 0, .vi 1, .vi 2] := by
  refine cb_of F rfl fun kV doc pm an cdv ct us ws h1 h2 => ?_
  exact match us, ws, h1, h2 with
  | [u0, u1, u2], [], _, _ => ⟨[u0, u1, u2], by kernel_rfl, (.vi rfl (.vi rfl (.vi rfl .nil))), rfl⟩
theorem cb44 {G : Cr} (kso : ksB ks G.K = true) (fd : FuncData) (F : FunOf G.K x70 fd) : CB G fd x70.ps 5 [] [.vi 0, .vi 1, .vi 2, .vi 3, .vi 4] := by
  refine cb_of F rfl fun kV doc pm an cdv ct us ws h1 h2 => ?_
  exact match us, ws, h1, h2 with
  | [u0, u1, u2, u3, u4], [], _, _ => ⟨[u0, u1, u2, u3, u4], by kernel_rfl, (.vi rfl (.vi rfl (.vi rfl (.vi rfl (.vi rfl .nil))))), rfl⟩
theorem cb45 {G : Cr} (kso : ksB ks G.K = true) (fd : FuncData) (F : FunOf G.K x43 fd) : CB G fd x43.ps 5 [] [.vi 0, .vi 1, .vi 2, .vi 3, .vi 4] := by
  refine cb_of F rfl fun kV doc pm an cdv ct us ws h1 h2 => ?_
  exact match us, ws, h1, h2 with
  | [u0, u1, u2, u3, u4], [], _, _ => ⟨[u0, u1, u2, u3, u4], by kernel_rfl, (.vi rfl (.vi rfl (.vi rfl (.vi rfl (.vi rfl .nil))))), rfl⟩
theorem cb46 {G : Cr} (kso : ksB ks G.K = true) (fd : FuncData) (F : FunOf G.K x69 fd) : CB G fd x69.ps 2 [] [.vi 0, .vi 1] := by
  refine cb_of F rfl fun kV doc pm an cdv ct us ws h1 h2 => ?_
  exact match us, ws, h1, h2 with
  | [u0, u1], [], _, _ => ⟨[u0, u1], by kernel_rfl, (.vi rfl (.vi rfl .nil)), rfl⟩
theorem cb47 {G : Cr} (kso : ksB ks G.K = true) (fd : FuncData) (F : FunOf G.K x67 fd) : CB G fd x67.ps 5 [] [.vi 0, .vi 1, .vi 2, .vi 3, .vi 4] := by
  refine cb_of F rfl fun kV doc pm an cdv ct us ws h1 h2 => ?_
  exact match us, ws, h1, h2 with
  | [u0, u1, u2, u3, u4], [], _, _ => ⟨[u0, u1, u2, u3, u4], by kernel_rfl, (.vi rfl (.vi rfl (.vi rfl (.vi rfl (.vi rfl .nil))))), rfl⟩
theorem cb48 {G : Cr} (kso : ksB ks G.K = true) (fd : FuncData) (F : FunOf G.K x68 fd) : CB G fd x68.ps 5 [] [.vi 0, .vi 1, .vi 2, .vi 3, .vi 4] := by
  refine cb_of F rfl fun kV doc pm an cdv ct us ws h1 h2 => ?_
  exact match us, ws, h1, h2 with
  | [u0, u1, u2, u3, u4], [], _, _ => ⟨[u0, u1, u2, u3, u4], by kernel_rfl, (.vi rfl (.vi rfl (.vi rfl (.vi rfl (.vi rfl .nil))))), rfl⟩
theorem cb49 {G : Cr} (kso : ksB ks G.K = true) (fd : FuncData) (F : FunOf G.K x87 fd) : CB G fd x87.ps 4 [] [.vi 0, .vi 1, .vi 2, .vi 3] := by
  refine cb_of F rfl fun kV doc pm an cdv ct us ws h1 h2 => ?_
  exact match us, ws, h1, h2 with
  | [u0, u1, u2, u3], [], _, _ => ⟨[u0, u1, u2, u3], by kernel_rfl, (.vi rfl (.vi rfl (.vi rfl (.vi rfl .nil)))), rfl⟩
theorem cb50 {G : Cr} (kso : ksB ks G.K = true) (fd : FuncData) (F : FunOf G.K x71 fd) : CB G fd x71.ps 6 [] [.vi 0, .vi 1, .vi 2, .vi 3, .vi 4, .vi 5] := by
  refine cb_of F rfl fun kV doc pm an cdv ct us ws h1 h2 => ?_
  exact match us, ws, h1, h2 with
  | [u0, u1, u2, u3, u4, u5], [], _, _ => ⟨[u0, u1, u2, u3, u4, u5], by kernel_rfl, (.vi rfl (.vi rfl (.vi rfl (.vi rfl (.vi rfl (.vi rfl .nil)))))), rfl⟩
theorem cb51 {G : Cr} (kso : ksB ks G.K = true) (fd : FuncData) (F : FunOf G.K x42 fd) : CB G fd x42.ps 4 [] [.vi 0, .vi 1, .vi 2, .vi 3] := by
  refine cb_of F rfl fun kV doc pm an cdv ct us ws h1 h2 => ?_
  exact match us, ws, h1, h2 with
  | [u0, u1, u2, u3], [], _, _ => ⟨[u0, u1, u2, u3], by kernel_rfl, (.vi rfl (.vi rfl (.vi rfl (.vi rfl .nil)))), rfl⟩
theorem cb52 {G : Cr} (kso : ksB ks G.K = true) (fd : FuncData) (F : FunOf G.K x88 fd) : CB G fd x88.ps 4 [] [.vi 0, .vi 1, .vi 2, .vi 3] := by
  refine cb_of F rfl fun kV doc pm an cdv ct us ws h1 h2 => ?_
  exact match us, ws, h1, h2 with
  | [u0, u1, u2, u3], [], _, _ => ⟨[u0, u1, u2, u3], by kernel_rfl, (.vi rfl (.vi rfl (.vi rfl (.vi rfl .nil)))), rfl⟩
theorem cb53 {G : Cr} (kso : ksB ks G.K = true) (fd : FuncData) (F : FunOf G.K x15 fd) : CB G fd x15.ps 1 [] [.vi 0] := by
  refine cb_of F rfl fun kV doc pm an cdv ct us ws h1 h2 => ?_
  exact match us, ws, h1, h2 with
  | [u0], [], _, _ => ⟨[u0], by kernel_rfl, (.vi rfl .nil), rfl⟩
theorem cb54 {G : Cr} (kso : ksB ks G.K = true) (fd : FuncData) (F : FunOf G.K x37 fd) : CB G fd x37.ps 2 [] [.vi 0, .vi 1] := by
  refine cb_of F rfl fun kV doc pm an cdv ct us ws h1 h2 => ?_
  exact match us, ws, h1, h2 with
  | [u0, u1], [], _, _ => ⟨[u0, u1], by kernel_rfl, (.vi rfl (.vi rfl .nil)), rfl⟩
theorem cb55 {G : Cr} (kso : ksB ks G.K = true) (fd : FuncData) (F : FunOf G.K x86 fd) : CB G fd x86.ps 3 [] [.vi 0, .vi 1, .vi 2] := by
  refine cb_of F rfl fun kV doc pm an cdv ct us ws h1 h2 => ?_
  exact match us, ws, h1, h2 with
  | [u0, u1, u2], [], _, _ => ⟨[u0, u1, u2], by kernel_rfl, (.vi rfl (.vi rfl (.vi rfl .nil))), rfl⟩
theorem cb56 {G : Cr} (kso : ksB ks G.K = true) (fd : FuncData) (F : FunOf G.K x44 fd) : CB G fd x44.ps 1 [] [.vi 0] := by
  refine cb_of F rfl fun kV doc pm an cdv ct us ws h1 h2 => ?_
  exact match us, ws, h1, h2 with
  | [u0], [], _, _ => ⟨[u0], by kernel_rfl, (.vi rfl .nil), rfl⟩
theorem cb57 {G : Cr} (kso : ksB ks G.K = true) (fd : FuncData) (F : FunOf G.K x41 fd) : CB G fd x41.ps 3 [] [.vi 0, .vi 1, .vi 2] := by
  refine cb_of F rfl fun kV doc pm an cdv ct us ws h1 h2 => ?_
  exact match us, ws, h1, h2 with
  | [u0, u1, u2], [], _, _ => ⟨[u0, u1, u2], by kernel_rfl, (.vi rfl (.vi rfl (.vi rfl .nil))), rfl⟩
theorem cb58 {G : Cr} (kso : ksB ks G.K = true) (fd : FuncData) (F : FunOf G.K x89 fd) : CB G fd x89.ps 6 [] [.vi 0, .vi 1, .vi 2, .vi 3, .vi 4, .vi 5] := by
  refine cb_of F rfl fun kV doc pm an cdv ct us ws h1 h2 => ?_
  exact match us, ws, h1, h2 with
  | [u0, u1, u2, u3, u4, u5], [], _, _ => ⟨[u0, u1, u2, u3, u4, u5], by kernel_rfl, (.vi rfl (.vi rfl (.vi rfl (.vi rfl (.vi rfl (.vi rfl .nil)))))), rfl⟩
theorem cb59 {G : Cr} (kso : ksB ks G.K = true) (fd : FuncData) (F : FunOf G.K x91 fd) : CB G fd x91.ps 2 [] [.vi 0, .vi 1] := by
  refine cb_of F rfl fun kV doc pm an cdv ct us ws h1 h2 => ?_
  exact match us, ws, h1, h2 with
  | [u0, u1], [], _, _ => ⟨[u0, u1], by kernel_rfl, (.vi rfl (.vi rfl .nil)), rfl⟩
theorem cb60 {G : Cr} (kso : ksB ks G.K = true) (fd : FuncData) (F : FunOf G.K x90 fd) : CB G fd x90.ps 6 [] [.vi 0, .vi 1, .vi 2, .vi 3, .vi 4, .vi 5] := by
  refine cb_of F rfl fun kV doc pm an cdv ct us ws h1 h2 => ?_
  exact match us, ws, h1, h2 with
  | [u0, u1, u2, u3, u4, u5], [], _, _ => ⟨[u0, u1, u2, u3, u4, u5], by kernel_rfl, (.vi rfl (.vi rfl (.vi rfl (.vi rfl (.vi rfl (.vi rfl .nil)))))), rfl⟩
theorem cb61 {G : Cr} (kso : ksB ks G.K = true) (fd : FuncData) (F : FunOf G.K x84 fd) : CB G fd x84.ps 5 ["turn"] [.vi 0, .vi 1, .vi 2, .vi 3, .vi 4, .vi 5] := by
  refine cb_of F rfl fun kV doc pm an cdv ct us ws h1 h2 => ?_
  exact match us, ws, h1, h2 with
  | [u0, u1, u2, u3, u4], [w0], _, _ => ⟨[u0, u1, u2, u3, u4, w0], by kernel_rfl, (.vi rfl (.vi rfl (.vi rfl (.vi rfl (.vi rfl (.vi rfl .nil)))))), rfl⟩
theorem cb62 {G : Cr} (kso : ksB ks G.K = true) (fd : FuncData) (F : FunOf G.K x84 fd) : CB G fd x84.ps 5 [] [.vi 0, .vi 1, .vi 2, .vi 3, .vi 4, .dv D.non] := by
  refine cb_ofK F rfl (by intro z; cases z) [("turn", D.non)] ?_ ?_
  · intro q hq
    simp only [List.mem_cons, List.not_mem_nil, or_false] at hq
    rcases hq with rfl
    · exact ⟨_, List.mem_map.mpr ⟨_, List.mem_of_getElem? (i := 0) rfl, rfl⟩, fun _ _ _ => .non⟩
  · intro D0 doc pm an cdv ct us ws mv h1 h2 hp
    match us, ws, mv, h1, h2, hp with
    | [u0, u1, u2, u3, u4], [], [m0], _, _, .cons q0 .nil => exact ⟨[u0, u1, u2, u3, u4, m0], ⟨_, _, _, _, _, _, rfl, rfl, rfl⟩, (.vi rfl (.vi rfl (.vi rfl (.vi rfl (.vi rfl (.dv (Classical.choose_spec q0).1 (Classical.choose_spec q0).2 .nil)))))), rfl⟩
theorem cb63 {G : Cr} (kso : ksB ks G.K = true) (fd : FuncData) (F : FunOf G.K x84 fd) : CB G fd x84.ps 0 ["thing", "since", "flight", "winds", "land"] [.vi 4, .vi 3, .vi 2, .vi 1, .vi 0, .dv D.non] := by
  refine cb_ofK F rfl (by intro z; cases z) [("turn", D.non)] ?_ ?_
  · intro q hq
    simp only [List.mem_cons, List.not_mem_nil, or_false] at hq
    rcases hq with rfl
    · exact ⟨_, List.mem_map.mpr ⟨_, List.mem_of_getElem? (i := 0) rfl, rfl⟩, fun _ _ _ => .non⟩
  · intro D0 doc pm an cdv ct us ws mv h1 h2 hp
    match us, ws, mv, h1, h2, hp with
    | [], [w0, w1, w2, w3, w4], [m0], _, _, .cons q0 .nil => exact ⟨[w4, w3, w2, w1, w0, m0], ⟨_, _, _, _, _, _, rfl, rfl, rfl⟩, (.vi rfl (.vi rfl (.vi rfl (.vi rfl (.vi rfl (.dv (Classical.choose_spec q0).1 (Classical.choose_spec q0).2 .nil)))))), rfl⟩
theorem cb64 {G : Cr} (kso : ksB ks G.K = true) (fd : FuncData) (F : FunOf G.K x79 fd) : CB G fd x79.ps 5 [] [.vi 0, .vi 1, .vi 2, .vi 3, .vi 4] := by
  refine cb_of F rfl fun kV doc pm an cdv ct us ws h1 h2 => ?_
  exact match us, ws, h1, h2 with
  | [u0, u1, u2, u3, u4], [], _, _ => ⟨[u0, u1, u2, u3, u4], by kernel_rfl, (.vi rfl (.vi rfl (.vi rfl (.vi rfl (.vi rfl .nil))))), rfl⟩
theorem cb65 {G : Cr} (kso : ksB ks G.K = true) (fd : FuncData) (F : FunOf G.K x11 fd) : CB G fd x11.ps 3 ["day", "heights", "barred", "people", "pads"] [.vi 0, .vi 1, .vi 2, .vi 3, .vi 4, .vi 5, .vi 6, .vi 7] := by
  refine cb_of F rfl fun kV doc pm an cdv ct us ws h1 h2 => ?_
  exact match us, ws, h1, h2 with
  | [u0, u1, u2], [w0, w1, w2, w3, w4], _, _ => ⟨[u0, u1, u2, w0, w1, w2, w3, w4], by kernel_rfl, (.vi rfl (.vi rfl (.vi rfl (.vi rfl (.vi rfl (.vi rfl (.vi rfl (.vi rfl .nil)))))))), rfl⟩
theorem cb66 {G : Cr} (kso : ksB ks G.K = true) (fd : FuncData) (F : FunOf G.K x52 fd) : CB G fd x52.ps 3 [] [.vi 0, .vi 1, .vi 2] := by
  refine cb_of F rfl fun kV doc pm an cdv ct us ws h1 h2 => ?_
  exact match us, ws, h1, h2 with
  | [u0, u1, u2], [], _, _ => ⟨[u0, u1, u2], by kernel_rfl, (.vi rfl (.vi rfl (.vi rfl .nil))), rfl⟩
theorem cb67 {G : Cr} (kso : ksB ks G.K = true) (fd : FuncData) (F : FunOf G.K x53 fd) : CB G fd x53.ps 3 [] [.vi 0, .vi 1, .vi 2] := by
  refine cb_of F rfl fun kV doc pm an cdv ct us ws h1 h2 => ?_
  exact match us, ws, h1, h2 with
  | [u0, u1, u2], [], _, _ => ⟨[u0, u1, u2], by kernel_rfl, (.vi rfl (.vi rfl (.vi rfl .nil))), rfl⟩
theorem cb68 {G : Cr} (kso : ksB ks G.K = true) (fd : FuncData) (F : FunOf G.K x54 fd) : CB G fd x54.ps 3 [] [.vi 0, .vi 1, .vi 2] := by
  refine cb_of F rfl fun kV doc pm an cdv ct us ws h1 h2 => ?_
  exact match us, ws, h1, h2 with
  | [u0, u1, u2], [], _, _ => ⟨[u0, u1, u2], by kernel_rfl, (.vi rfl (.vi rfl (.vi rfl .nil))), rfl⟩
theorem cb69 {G : Cr} (kso : ksB ks G.K = true) (fd : FuncData) (F : FunOf G.K x55 fd) : CB G fd x55.ps 5 [] [.vi 0, .vi 1, .vi 2, .vi 3, .vi 4] := by
  refine cb_of F rfl fun kV doc pm an cdv ct us ws h1 h2 => ?_
  exact match us, ws, h1, h2 with
  | [u0, u1, u2, u3, u4], [], _, _ => ⟨[u0, u1, u2, u3, u4], by kernel_rfl, (.vi rfl (.vi rfl (.vi rfl (.vi rfl (.vi rfl .nil))))), rfl⟩
theorem cb70 {G : Cr} (kso : ksB ks G.K = true) (fd : FuncData) (F : FunOf G.K x80 fd) : CB G fd x80.ps 1 [] [.vi 0] := by
  refine cb_of F rfl fun kV doc pm an cdv ct us ws h1 h2 => ?_
  exact match us, ws, h1, h2 with
  | [u0], [], _, _ => ⟨[u0], by kernel_rfl, (.vi rfl .nil), rfl⟩
theorem cb71 {G : Cr} (kso : ksB ks G.K = true) (fd : FuncData) (F : FunOf G.K x81 fd) : CB G fd x81.ps 1 [] [.vi 0] := by
  refine cb_of F rfl fun kV doc pm an cdv ct us ws h1 h2 => ?_
  exact match us, ws, h1, h2 with
  | [u0], [], _, _ => ⟨[u0], by kernel_rfl, (.vi rfl .nil), rfl⟩
theorem cb72 {G : Cr} (kso : ksB ks G.K = true) (fd : FuncData) (F : FunOf G.K x82 fd) : CB G fd x82.ps 2 [] [.vi 0, .vi 1] := by
  refine cb_of F rfl fun kV doc pm an cdv ct us ws h1 h2 => ?_
  exact match us, ws, h1, h2 with
  | [u0, u1], [], _, _ => ⟨[u0, u1], by kernel_rfl, (.vi rfl (.vi rfl .nil)), rfl⟩
theorem cb73 {G : Cr} (kso : ksB ks G.K = true) (fd : FuncData) (F : FunOf G.K x83 fd) : CB G fd x83.ps 1 [] [.vi 0] := by
  refine cb_of F rfl fun kV doc pm an cdv ct us ws h1 h2 => ?_
  exact match us, ws, h1, h2 with
  | [u0], [], _, _ => ⟨[u0], by kernel_rfl, (.vi rfl .nil), rfl⟩
def fa : List He.Fa := [.glo "is_whole", .glo "is_within", .glo "are_wholes", .glo "is_box", .glo "is_room", .glo "are_rooms", .glo "are_heights", .glo "has_square", .glo "do_share", .glo "is_pad", .glo "are_pads", .glo "is_in", .glo "is_beside", .glo "need_field", .glo "last_step", .glo "box_for", .glo "step_by", .glo "load_of", .glo "row_at", .glo "no_further", .glo "middle_of", .glo "wish_of", .glo "is_standing", .glo "cost_of", .glo "carried", .glo "arrived", .glo "beat_done", .glo "let_by_bounds", .glo "winds_at", .glo "is_home", .glo "is_wind_at", .glo "walked", .glo "_law_deck", .glo "_law_draw", .glo "_law_pick", .glo "_law_box", .glo "_law_room", .glo "_law_sizes", .glo "_law_heights", .glo "_law_pads", .glo "_law_fields", .glo "_law_has", .glo "_law_pad_at", .glo "_law_hurts", .glo "_law_lets", .glo "_law_blowing", .glo "_law_winds_at", .glo "_law_task", .glo "_law_last", .glo "_law_step", .glo "_law_load", .glo "_law_way", .glo "_law_flight", .glo "_law_row", .glo "_law_wish", .glo "_law_stands", .glo "_law_beat", .glo "_law_home_at", .glo "_law_run", .glo "_law_made", .glo "_law_walked", .glo "_law_thing", .glo "law", .glo "Land", .cls "Land", .glo "Walk", .cls "Walk", .free "len", .free "abs", .free "min", .free "max", .free "int", .free "tuple", .free "list", .free "sum", .free "any", .free "all", .free "repr", .free "bool", .free "range", .free "enumerate", .free "isinstance", .free "zip", .free "sorted", .free "set", .free "str", .free "dict", .noat "Land" "wide", .noat "Land" "high", .noat "Land" "day", .noat "Land" "heights", .noat "Land" "barred", .noat "Land" "people", .noat "Land" "pads", .noat "Walk" "land_below", .noat "Walk" "flight_gone", .noat "Walk" "begun_at", .noat "Walk" "turned_at", .noat "Walk" "beat_now", .noat "Walk" "states_so_far", .noat "Walk" "word_now", .mkr "Walk", .mkr "Land", .meth "Land" "has", .meth "Land" "height_at", .meth "Land" "pad_at", .meth "Land" "hurts", .meth "Walk" "last_state", .meth "Walk" "is_ended", .meth "Walk" "go_on", .meth "Walk" "told_so_far"]
def fn : List He.DefD := dfs.map (·.2.d)
abbrev R : PySem.W.OpenRow := PySem.W.OpenLaw.row PySem.Challenge.rw_windfleet_k09_runs_walked
abbrev hk : PySem.W.Hook := hookW 5 fa fn gls ks
def ob (s : PySem.W.SharedT) : AlW := seeW 5 fa fn gls ks (HandSHeadRun.getT s)
theorem ob_eq (s : PySem.W.SharedT) : ob s = hk.obs s.abs := seeW_eq (HandSHeadRun.getT_eq s)
def loose : List Str := [("DAY" : Str), ("is_whole" : Str), ("is_within" : Str), ("are_wholes" : Str), ("FleetError" : Str), ("NoLand" : Str), ("MOST_SQUARES" : Str), ("MOST_DAY" : Str), ("MOST_HEIGHT" : Str), ("MOST_ROOMS" : Str), ("MOST_PADS" : Str), ("MOST_ON_PAD" : Str), ("is_box" : Str), ("is_room" : Str), ("are_rooms" : Str), ("are_heights" : Str), ("has_square" : Str), ("do_share" : Str), ("is_pad" : Str), ("are_pads" : Str), ("is_in" : Str), ("is_beside" : Str), ("need_field" : Str), ("Land" : Str), ("LAST_STEPS" : Str), ("last_step" : Str), ("box_for" : Str), ("step_by" : Str), ("load_of" : Str), ("HOME" : Str), ("STAND" : Str), ("GO" : Str), ("NO_PAD" : Str), ("EMPTY" : Str), ("row_at" : Str), ("no_further" : Str), ("middle_of" : Str), ("wish_of" : Str), ("is_standing" : Str), ("cost_of" : Str), ("carried" : Str), ("arrived" : Str), ("beat_done" : Str), ("let_by_bounds" : Str), ("winds_at" : Str), ("LATE" : Str), ("is_home" : Str), ("is_wind_at" : Str), ("Walk" : Str), ("walked" : Str), ("_law_deck" : Str), ("_law_draw" : Str), ("_law_pick" : Str), ("_law_box" : Str), ("_law_room" : Str), ("_law_sizes" : Str), ("_law_heights" : Str), ("_law_pads" : Str), ("_law_fields" : Str), ("_law_has" : Str), ("_law_pad_at" : Str), ("_law_hurts" : Str), ("_law_lets" : Str), ("_law_blowing" : Str), ("_law_winds_at" : Str), ("_law_task" : Str), ("_law_last" : Str), ("_law_step" : Str), ("_law_load" : Str), ("_law_way" : Str), ("_law_flight" : Str), ("_law_row" : Str), ("_law_wish" : Str), ("_law_stands" : Str), ("_law_beat" : Str), ("_law_home_at" : Str), ("_law_run" : Str), ("_law_made" : Str), ("_law_walked" : Str), ("_law_thing" : Str)]
theorem run_false (w : World) : HandSHeadRun.RunEq R (PySem.W.view R.prog [88]) hk ob 12000 loose (w.withFollow "special-get-raises" false) := by
  intro os
  kernel_rfl
theorem run_true (w : World) : HandSHeadRun.RunEq R (PySem.W.view R.prog [88]) hk ob 12000 loose (w.withFollow "special-get-raises" true) := by
  intro os
  kernel_rfl
theorem run (w : World) : HandSHeadRun.RunEq R (PySem.W.view R.prog [88]) hk ob 12000 loose w := PySem.W.byRow2 "special-get-raises" (P := fun w => HandSHeadRun.RunEq R (PySem.W.view R.prog [88]) hk ob 12000 loose w) run_false run_true w
theorem says {w : World} {K : PySem.W.Frag} {h : Heap} {mg : Str → Option Value} (X : K.In h) (g : h.Ns mainGlobals mg) (c : SaysW fa fn gls ks w K) : Says ⟨K, w, clsOf K⟩ mg tb dfs := by
  have sd := SaysW.d (G := ⟨K, w, clsOf K⟩) c
  have kso : ksB ks K = true := SaysW.kso (G := ⟨K, w, clsOf K⟩) c
  have fr : ∀ (i : Nat) (x : Str), fa[i]? = some (.free x) → mg x = none := fun i x e => He.free_ok X g (sd.fact i e)
  have gg : ∀ (i : Nat) (x : Str), fa[i]? = some (.glo x) → mg x = some (.ref (He.ga K x)) := fun i x e => He.glo_ok X g (sd.fact i e)
  refine ⟨looked, fun x hx => ?_, fun c hc => ?_, fun f => ?_, fr 79 "range" rfl, fr 80 "enumerate" rfl, fr 81 "isinstance" rfl, fr 82 "zip" rfl, fun x hx => ?_, fun t => ?_, fun q hq => ?_, fun c Cc h => ?_, fun c f h Cc hC => ?_, fun k hk => ?_, fun k hk => ?_⟩
  · obtain ⟨i, hi⟩ := List.getElem?_of_mem hx
    exact sd.def_ i (d := x.2.d) (by show (dfs.map (·.2.d))[i]? = _; rw [List.getElem?_map, hi]; rfl)
  · simp only [tb, cs, List.mem_cons, List.not_mem_nil, or_false] at hc
    rcases hc with rfl | rfl | rfl | rfl | rfl | rfl | rfl | rfl | rfl | rfl | rfl | rfl | rfl | rfl | rfl | rfl | rfl | rfl | rfl | rfl | rfl | rfl | rfl | rfl | rfl | rfl | rfl | rfl | rfl | rfl | rfl | rfl | rfl | rfl | rfl | rfl | rfl | rfl | rfl | rfl | rfl | rfl | rfl | rfl | rfl | rfl | rfl | rfl | rfl | rfl | rfl | rfl | rfl | rfl | rfl | rfl | rfl | rfl | rfl | rfl | rfl | rfl | rfl | rfl
    · exact ⟨x0, rfl, rfl, gg 0 _ rfl, cb0 kso⟩
    · exact ⟨x2, rfl, rfl, gg 2 _ rfl, cb1 kso⟩
    · exact ⟨x3, rfl, rfl, gg 3 _ rfl, cb2 kso⟩
    · exact ⟨x4, rfl, rfl, gg 4 _ rfl, cb3 kso⟩
    · exact ⟨x1, rfl, rfl, gg 1 _ rfl, cb4 kso⟩
    · exact ⟨x8, rfl, rfl, gg 9 _ rfl, cb5 kso⟩
    · exact ⟨x7, rfl, rfl, gg 8 _ rfl, cb6 kso⟩
    · exact ⟨x49, rfl, rfl, gg 7 _ rfl, cb7 kso⟩
    · exact ⟨x50, rfl, rfl, gg 11 _ rfl, cb8 kso⟩
    · exact ⟨x10, rfl, rfl, gg 13 _ rfl, cb9 kso⟩
    · exact ⟨x6, rfl, rfl, gg 6 _ rfl, cb10 kso⟩
    · exact ⟨x5, rfl, rfl, gg 5 _ rfl, cb11 kso⟩
    · exact ⟨x9, rfl, rfl, gg 10 _ rfl, cb12 kso⟩
    · exact ⟨x51, rfl, rfl, gg 12 _ rfl, cb13 kso⟩
    · exact ⟨x56, rfl, rfl, gg 14 _ rfl, cb14 kso⟩
    · exact ⟨x57, rfl, rfl, gg 15 _ rfl, cb15 kso⟩
    · exact ⟨x30, rfl, rfl, gg 20 _ rfl, cb16 kso⟩
    · exact ⟨x29, rfl, rfl, gg 19 _ rfl, cb17 kso⟩
    · exact ⟨x59, rfl, rfl, gg 17 _ rfl, cb18 kso⟩
    · exact ⟨x60, rfl, rfl, gg 22 _ rfl, cb19 kso⟩
    · exact ⟨x31, rfl, rfl, gg 21 _ rfl, cb20 kso⟩
    · exact ⟨x61, rfl, rfl, gg 23 _ rfl, cb21 kso⟩
    · exact ⟨x58, rfl, rfl, gg 16 _ rfl, cb22 kso⟩
    · exact ⟨x62, rfl, rfl, gg 24 _ rfl, cb23 kso⟩
    · exact ⟨x63, rfl, rfl, gg 25 _ rfl, cb24 kso⟩
    · exact ⟨x75, rfl, rfl, gg 27 _ rfl, cb25 kso⟩
    · exact ⟨x76, rfl, rfl, gg 28 _ rfl, cb26 kso⟩
    · exact ⟨x28, rfl, rfl, gg 18 _ rfl, cb27 kso⟩
    · exact ⟨x64, rfl, rfl, gg 26 _ rfl, cb28 kso⟩
    · exact ⟨x77, rfl, rfl, gg 29 _ rfl, cb29 kso⟩
    · exact ⟨x78, rfl, rfl, gg 30 _ rfl, cb30 kso⟩
    · exact ⟨x16, rfl, rfl, gg 33 _ rfl, cb31 kso⟩
    · exact ⟨x32, rfl, rfl, gg 35 _ rfl, cb32 kso⟩
    · exact ⟨x34, rfl, rfl, gg 37 _ rfl, cb33 kso⟩
    · exact ⟨x35, rfl, rfl, gg 38 _ rfl, cb34 kso⟩
    · exact ⟨x33, rfl, rfl, gg 36 _ rfl, cb35 kso⟩
    · exact ⟨x36, rfl, rfl, gg 39 _ rfl, cb36 kso⟩
    · exact ⟨x65, rfl, rfl, gg 41 _ rfl, cb37 kso⟩
    · exact ⟨x85, rfl, rfl, gg 44 _ rfl, cb38 kso⟩
    · exact ⟨x39, rfl, rfl, gg 48 _ rfl, cb39 kso⟩
    · exact ⟨x17, rfl, rfl, gg 34 _ rfl, cb40 kso⟩
    · exact ⟨x38, rfl, rfl, gg 47 _ rfl, cb41 kso⟩
    · exact ⟨x40, rfl, rfl, gg 51 _ rfl, cb42 kso⟩
    · exact ⟨x66, rfl, rfl, gg 42 _ rfl, cb43 kso⟩
    · exact ⟨x70, rfl, rfl, gg 55 _ rfl, cb44 kso⟩
    · exact ⟨x43, rfl, rfl, gg 54 _ rfl, cb45 kso⟩
    · exact ⟨x69, rfl, rfl, gg 50 _ rfl, cb46 kso⟩
    · exact ⟨x67, rfl, rfl, gg 43 _ rfl, cb47 kso⟩
    · exact ⟨x68, rfl, rfl, gg 49 _ rfl, cb48 kso⟩
    · exact ⟨x87, rfl, rfl, gg 46 _ rfl, cb49 kso⟩
    · exact ⟨x71, rfl, rfl, gg 56 _ rfl, cb50 kso⟩
    · exact ⟨x42, rfl, rfl, gg 53 _ rfl, cb51 kso⟩
    · exact ⟨x88, rfl, rfl, gg 57 _ rfl, cb52 kso⟩
    · exact ⟨x15, rfl, rfl, gg 32 _ rfl, cb53 kso⟩
    · exact ⟨x37, rfl, rfl, gg 40 _ rfl, cb54 kso⟩
    · exact ⟨x86, rfl, rfl, gg 45 _ rfl, cb55 kso⟩
    · exact ⟨x44, rfl, rfl, gg 59 _ rfl, cb56 kso⟩
    · exact ⟨x41, rfl, rfl, gg 52 _ rfl, cb57 kso⟩
    · exact ⟨x89, rfl, rfl, gg 58 _ rfl, cb58 kso⟩
    · exact ⟨x91, rfl, rfl, gg 61 _ rfl, cb59 kso⟩
    · exact ⟨x90, rfl, rfl, gg 60 _ rfl, cb60 kso⟩
    · exact ⟨x84, rfl, rfl, gg 31 _ rfl, cb61 kso⟩
    · exact ⟨x84, rfl, rfl, gg 31 _ rfl, cb62 kso⟩
    · exact ⟨x84, rfl, rfl, gg 31 _ rfl, cb63 kso⟩
  · cases f
    · exact fr 67 _ rfl
    · exact fr 68 _ rfl
    · exact fr 69 _ rfl
    · exact fr 70 _ rfl
    · exact fr 71 _ rfl
    · exact fr 72 _ rfl
    · exact fr 73 _ rfl
    · exact fr 74 _ rfl
    · exact fr 75 _ rfl
    · exact fr 76 _ rfl
    · exact fr 77 _ rfl
    · exact fr 78 _ rfl
  · simp only [btN, List.mem_cons, List.not_mem_nil, or_false] at hx
    rcases hx with rfl | rfl
    · exact fr 83 _ rfl
    · exact fr 84 _ rfl
  · cases t
    · exact fr 71 _ rfl
    · exact fr 78 _ rfl
    · exact fr 85 _ rfl
    · exact fr 72 _ rfl
    · exact fr 73 _ rfl
    · exact fr 86 _ rfl
  · exact SaysW.gl (G := ⟨K, w, clsOf K⟩) c X g hq
  · obtain ⟨x, h1, h2⟩ := Option.map_eq_some_iff.mp (show (clsN.lookup c).map (He.ga K) = some Cc from h)
    have h3 := mem_lk h1
    simp only [clsN, List.mem_cons, List.not_mem_nil, or_false] at h3
    rcases h3 with h3 | h3
    · cases h3; cases h2; exact He.cls_ok (sd.fact 64 rfl)
    · cases h3; cases h2; exact He.cls_ok (sd.fact 66 rfl)
  · simp only [tb, na, List.mem_cons, List.not_mem_nil, or_false] at h
    rcases h with h | h | h | h | h | h | h | h | h | h | h | h | h | h
    · cases h; cases (show some (He.ga K "Land") = some Cc from hC); exact He.noat_ok (sd.fact 87 rfl)
    · cases h; cases (show some (He.ga K "Land") = some Cc from hC); exact He.noat_ok (sd.fact 88 rfl)
    · cases h; cases (show some (He.ga K "Land") = some Cc from hC); exact He.noat_ok (sd.fact 89 rfl)
    · cases h; cases (show some (He.ga K "Land") = some Cc from hC); exact He.noat_ok (sd.fact 90 rfl)
    · cases h; cases (show some (He.ga K "Land") = some Cc from hC); exact He.noat_ok (sd.fact 91 rfl)
    · cases h; cases (show some (He.ga K "Land") = some Cc from hC); exact He.noat_ok (sd.fact 92 rfl)
    · cases h; cases (show some (He.ga K "Land") = some Cc from hC); exact He.noat_ok (sd.fact 93 rfl)
    · cases h; cases (show some (He.ga K "Walk") = some Cc from hC); exact He.noat_ok (sd.fact 94 rfl)
    · cases h; cases (show some (He.ga K "Walk") = some Cc from hC); exact He.noat_ok (sd.fact 95 rfl)
    · cases h; cases (show some (He.ga K "Walk") = some Cc from hC); exact He.noat_ok (sd.fact 96 rfl)
    · cases h; cases (show some (He.ga K "Walk") = some Cc from hC); exact He.noat_ok (sd.fact 97 rfl)
    · cases h; cases (show some (He.ga K "Walk") = some Cc from hC); exact He.noat_ok (sd.fact 98 rfl)
    · cases h; cases (show some (He.ga K "Walk") = some Cc from hC); exact He.noat_ok (sd.fact 99 rfl)
    · cases h; cases (show some (He.ga K "Walk") = some Cc from hC); exact He.noat_ok (sd.fact 100 rfl)
  · simp only [tb, mks, List.mem_cons, List.not_mem_nil, or_false] at hk
    rcases hk with rfl | rfl
    · exact ⟨He.ga K "Walk", x79, gg 65 _ rfl, rfl, rfl, He.mkr_ok (sd.fact 101 rfl), cb64 kso⟩
    · exact ⟨He.ga K "Land", x11, gg 63 _ rfl, rfl, rfl, He.mkr_ok (sd.fact 102 rfl), cb65 kso⟩
  · simp only [tb, mts, List.mem_cons, List.not_mem_nil, or_false] at hk
    rcases hk with rfl | rfl | rfl | rfl | rfl | rfl | rfl | rfl
    · refine ⟨x52, rfl, fun Cc hC => ?_, cb66 kso⟩; cases (show some (He.ga K "Land") = some Cc from hC); exact He.meth_ok (sd.fact 103 rfl)
    · refine ⟨x53, rfl, fun Cc hC => ?_, cb67 kso⟩; cases (show some (He.ga K "Land") = some Cc from hC); exact He.meth_ok (sd.fact 104 rfl)
    · refine ⟨x54, rfl, fun Cc hC => ?_, cb68 kso⟩; cases (show some (He.ga K "Land") = some Cc from hC); exact He.meth_ok (sd.fact 105 rfl)
    · refine ⟨x55, rfl, fun Cc hC => ?_, cb69 kso⟩; cases (show some (He.ga K "Land") = some Cc from hC); exact He.meth_ok (sd.fact 106 rfl)
    · refine ⟨x80, rfl, fun Cc hC => ?_, cb70 kso⟩; cases (show some (He.ga K "Walk") = some Cc from hC); exact He.meth_ok (sd.fact 107 rfl)
    · refine ⟨x81, rfl, fun Cc hC => ?_, cb71 kso⟩; cases (show some (He.ga K "Walk") = some Cc from hC); exact He.meth_ok (sd.fact 108 rfl)
    · refine ⟨x82, rfl, fun Cc hC => ?_, cb72 kso⟩; cases (show some (He.ga K "Walk") = some Cc from hC); exact He.meth_ok (sd.fact 109 rfl)
    · refine ⟨x83, rfl, fun Cc hC => ?_, cb73 kso⟩; cases (show some (He.ga K "Walk") = some Cc from hC); exact He.meth_ok (sd.fact 110 rfl)
theorem bindL {K : PySem.W.Frag} (fd : FuncData) (F : FunOf K x92 fd) (s : Shared) (u : Value) : BindsTo s fd ⟨[u], []⟩ [("_law_script", u)] := by
  have b := FunD.bindsA (ps := ["_law_script"]) F fun _ _ _ _ _ _ us hl => match us, hl with | [_], _ => (by kernel_rfl)
  exact b s [u] rfl
end K09h
set_option Elab.async false
set_option linter.all false
/-! Rewriting from the left: what stands behind is not looked at before its turn. -/
namespace Wf
open PySem L2
theorem Ok_congr {α : Type} {x y : Option α} {Q : α → Prop} (h : x = y) : Ok x Q = Ok y Q := by rw [h]
theorem bind_cg {α β : Type} {x y : Option α} {f : α → Option β} (h : x = y) : x.bind f = y.bind f := by rw [h]
theorem map_cg {α β : Type} {x y : Option α} {f : α → β} (h : x = y) : x.map f = y.map f := by rw [h]
theorem SKn {C : Orc} {ss : Ss} {K : Fl → Prop} {env : Env} {S : Sto} (h : Ok (evSs C ss env S) K) : SK C ss K (.nx env S) := h
theorem SKr {C : Orc} {ss : Ss} {K : Fl → Prop} {d : D} {S : Sto} (h : K (.rt d S)) : SK C ss K (.rt d S) := h
theorem Okc {C : Orc} {s : Sx} {ss : Ss} {env : Env} {S : Sto} {K : Fl → Prop} (h : Ok (evS C s env S) (SK C ss K)) : Ok (evSs C (.cons s ss) env S) K := by rw [Ok_cons]; exact h
theorem Okn {C : Orc} {env : Env} {S : Sto} {K : Fl → Prop} (h : K (.nx env S)) : Ok (evSs C .nil env S) K := by rw [Ok_nil]; exact h
section
variable {α : Type} {k b : Bool} {S : Sto} {x y : D} {i j : Int}
theorem fold_and : (if k = true then some (D.bl b, S) else some (D.bl false, S)) = some (D.bl (k && b), S) := by cases k <;> rfl
theorem fold_or : (if k = true then some (D.bl true, S) else some (D.bl b, S)) = some (D.bl (k || b), S) := by cases k <;> rfl
theorem fold_ite {c : Prop} [Decidable c] : (if c then some (x, S) else some (y, S)) = some (if c then x else y, S) := by split <;> rfl
theorem fold_iteI {c : Prop} [Decidable c] : (if c then D.int i else D.int j) = D.int (if c then i else j) := by split <;> rfl
theorem fold_iteB {c : Prop} [Decidable c] : (if c then D.bl k else D.bl b) = D.bl (if c then k else b) := by split <;> rfl
theorem fold_flt {c : Prop} [Decidable c] {o p : Option D} : (if c then some (o, S) else some (p, S)) = some (if c then o else p, S) := by split <;> rfl
theorem ite_bF {c : Prop} [Decidable c] : (if c then b else false) = (decide c && b) := by by_cases h : c <;> simp [h]
theorem ite_bT {c : Prop} [Decidable c] : (if c then true else b) = (decide c || b) := by by_cases h : c <;> simp [h]
theorem eq_of_Ok {α : Type} {x : Option α} {a : α} (h : Ok x (· = a)) : x = some a := by
  obtain ⟨b, e, q⟩ := h
  rw [e, q]
theorem Ok_is {α : Type} {x : Option α} {a : α} {Q : α → Prop} (e : x = some a) (q : Q a) : Ok x Q := ⟨a, e, q⟩
theorem refI_is {c i : Nat} {fs : List (Str × D)} (h : S[i]? = some (.ins c fs)) : refI c (.ref i) S = some (i, fs) := by
  show (match S[i]? with
    | some (Ob.ins c' fs) => if c' = c then some (i, fs) else none
    | _ => none) = some (i, fs)
  rw [h]
  simp
/-! ### comprehensions whose items change nothing -/
theorem lc_map {β : Type} {enc : β → D} {g : β → D} {f : D → Sto → Option (Option D × Sto)} : ∀ {xs : List β} {acc : List D}, acc.length + xs.length < sizeLine → (∀ x ∈ xs, f (enc x) S = some (some (g x), S)) → lcGo f (xs.map enc) acc S = some (acc ++ xs.map g, S)
  | [], acc, _, _ => by simp [lcGo]
  | x :: xs, acc, hl, h => by
    rw [List.length_cons] at hl
    rw [List.map_cons, lcGo, h x List.mem_cons_self]
    simp only
    rw [if_pos (by omega), lc_map (xs := xs) (by rw [List.length_append, List.length_cons, List.length_nil]; omega) fun y hy => h y (List.mem_cons_of_mem _ hy)]
    simp
theorem lc_flt {β : Type} {enc : β → D} {g : β → D} {p : β → Bool} {f : D → Sto → Option (Option D × Sto)} : ∀ {xs : List β} {acc : List D}, acc.length + xs.length < sizeLine → (∀ x ∈ xs, f (enc x) S = some (if p x = true then some (g x) else none, S)) →
    lcGo f (xs.map enc) acc S = some (acc ++ (xs.filter p).map g, S)
  | [], acc, _, _ => by simp [lcGo]
  | x :: xs, acc, hl, h => by
    rw [List.length_cons] at hl
    rw [List.map_cons, lcGo, h x List.mem_cons_self]
    cases hp : p x with
    | true =>
      simp only [if_true]
      rw [if_pos (by omega), lc_flt (xs := xs) (by rw [List.length_append, List.length_cons, List.length_nil]; omega) fun y hy => h y (List.mem_cons_of_mem _ hy), List.filter_cons_of_pos hp]
      simp
    | false =>
      simp only [Bool.false_eq_true, if_false]
      rw [lc_flt (xs := xs) (by omega) fun y hy => h y (List.mem_cons_of_mem _ hy), List.filter_cons_of_neg (by rw [hp]; decide)]
theorem la_map {β : Type} {enc : β → D} {g : β → List D} (B : Nat) {f : D → List D → Sto → Option (List D × Sto)} : ∀ {xs : List β} {acc : List D}, acc.length + (xs.flatMap g).length ≤ B → (∀ x ∈ xs, ∀ acc, acc.length + (g x).length ≤ B → f (enc x) acc S = some (acc ++ g x, S)) → lcAll f (xs.map enc) acc S = some (acc ++ xs.flatMap g, S)
  | [], acc, _, _ => by simp [lcAll]
  | x :: xs, acc, hB, h => by
    rw [List.flatMap_cons, List.length_append] at hB
    rw [List.map_cons, lcAll, h x List.mem_cons_self acc (by omega)]
    simp only
    rw [la_map B (xs := xs) (by rw [List.length_append]; omega) fun y hy => h y (List.mem_cons_of_mem _ hy)]
    simp
theorem flat_len {β : Type} {g : β → List D} {c : Nat} : ∀ {xs : List β}, (∀ x ∈ xs, (g x).length ≤ c) → (xs.flatMap g).length ≤ xs.length * c
  | [], _ => by simp
  | x :: xs, h => by
    have h1 := h x List.mem_cons_self
    have h2 := flat_len (xs := xs) fun y hy => h y (List.mem_cons_of_mem _ hy)
    rw [List.flatMap_cons, List.length_append, List.length_cons, Nat.succ_mul]
    omega
theorem flat_const {β γ : Type} {g : β → List γ} {c : D} {xs : List β} : (xs.flatMap fun x => (g x).map fun _ => c) = (xs.flatMap g).map fun _ => c := by
  rw [List.map_flatMap]
theorem bools_map {β : Type} {p : β → Bool} : ∀ xs : List β, boolsOf (xs.map fun x => D.bl (p x)) = some (xs.map p)
  | [] => rfl
  | x :: xs => by rw [List.map_cons, boolsOf, bools_map xs]; rfl
theorem f_all {β : Type} {p : β → Bool} {xs : List β} : semBi .all [.lst (xs.map fun x => D.bl (p x))] = some (.bl (xs.all p)) := by
  show (boolsOf _).map _ = _
  rw [bools_map]
  simp [List.all_map]
theorem f_any {β : Type} {p : β → Bool} {xs : List β} : semBi .any [.lst (xs.map fun x => D.bl (p x))] = some (.bl (xs.any p)) := by
  show (boolsOf _).map _ = _
  rw [bools_map]
  simp [List.any_map]
/-! ### cuts -/
theorem cut_to {xs : List D} {n : Int} (h : 0 ≤ n) : cutD xs none (some n) = xs.take n.toNat := by
  unfold cutD
  have e1 : HT.sIx xs.length 0 none = 0 := rfl
  have e2 : HT.sIx xs.length xs.length (some n) = min n.toNat xs.length := by
    unfold HT.sIx
    simp
    omega
  rw [e1, e2, List.drop_zero, Nat.sub_zero, List.take_eq_take_iff]
  omega
theorem cut_from {xs : List D} {n : Int} (h : 0 ≤ n) : cutD xs (some n) none = xs.drop n.toNat := by
  unfold cutD
  have e1 : HT.sIx xs.length 0 (some n) = min n.toNat xs.length := by
    unfold HT.sIx
    simp
    omega
  have e2 : HT.sIx xs.length xs.length none = xs.length := rfl
  rw [e1, e2]
  rcases Nat.le_total n.toNat xs.length with h | h
  · rw [Nat.min_eq_left h]
    exact List.take_of_length_le (by simp)
  · rw [Nat.min_eq_right h, List.drop_of_length_le (Nat.le_refl _), List.drop_of_length_le h]
    simp
theorem cutT {xs : List D} {a b : Option Int} : semCut (.tup xs) a b = some (.tup (cutD xs a b)) := rfl
theorem cutL {xs : List D} {a b : Option Int} : semCut (.lst xs) a b = some (.lst (cutD xs a b)) := rfl
theorem sq_t {xs : List D} : seqD (.tup xs) = some xs := rfl
theorem sq_l {xs : List D} : seqD (.lst xs) = some xs := rfl
theorem isi_i {t : Ty} : semIsi t (.int i) = some (decide (t = .int)) := rfl
theorem isi_t {t : Ty} {xs : List D} : semIsi t (.tup xs) = some (decide (t = .tuple)) := rfl
theorem isi_n {t : Ty} : semIsi t .non = some false := by cases t <;> rfl
theorem isi_b {t : Ty} : semIsi t (.bl b) = some (decide (t = .bool ∨ t = .int)) := rfl
theorem isi_l {t : Ty} {xs : List D} : semIsi t (.lst xs) = some (decide (t = .list)) := rfl
theorem isi_s {t : Ty} {z : Str} : semIsi t (.str z) = some (decide (t = .str)) := rfl
theorem szle {n : Nat} (h : n ≤ 1000) : (n ≤ sizeLine) = True := by simp only [eq_iff_iff, iff_true]; unfold sizeLine; omega
theorem sm62_i {i : Int} (h0 : -1000000 ≤ i) (h1 : i ≤ 1000000) : small62 i = true := by unfold small62; simp; omega
end
end Wf
namespace Wf
open PySem L2
theorem lcGo_nil {f : D → Sto → Option (Option D × Sto)} {acc : List D} {S : Sto} : lcGo f [] acc S = some (acc, S) := rfl
theorem lcGo_cons {f : D → Sto → Option (Option D × Sto)} {d : D} {ds acc : List D} {S : Sto} : lcGo f (d :: ds) acc S = (f d S).bind fun p => match p.1 with
    | some x => if acc.length < sizeLine then lcGo f ds (acc ++ [x]) p.2 else none
    | none => lcGo f ds acc p.2 := by
  rw [lcGo]
  cases f d S with
  | none => rfl
  | some p =>
    obtain ⟨o, S1⟩ := p
    cases o <;> rfl
theorem rng2 : rangeD 0 2 = [.int 0, .int 1] := rfl
theorem rng3 : rangeD 0 3 = [.int 0, .int 1, .int 2] := rfl
theorem rng6 : rangeD 0 6 = [.int 0, .int 1, .int 2, .int 3, .int 4, .int 5] := rfl
theorem sm62_l {i : Int} (h : decide (-1000000 ≤ i ∧ i ≤ 1000000) = true) : small62 i = true := by
  rw [decide_eq_true_eq] at h
  exact sm62_i h.1 h.2
theorem sm62_N {i : Int} (h0 : -1000000 ≤ i) (h1 : i ≤ 1000000) : (small62 i = true) = True := by rw [sm62_i h0 h1]; simp
theorem szlt {n : Nat} (h : n ≤ 1000) : (n < sizeLine) = True := by simp only [eq_iff_iff, iff_true]; unfold sizeLine; omega
/-- whole numbers of a range -/
def rangeZ (lo hi : Int) : List Int := (List.range (hi - lo).toNat).map fun (k : Nat) => lo + (k : Int)
theorem rangeD_map {lo hi : Int} : rangeD lo hi = (rangeZ lo hi).map D.int := by unfold rangeD rangeZ; rw [List.map_map]; rfl
theorem rangeZ_len {lo hi : Int} : (rangeZ lo hi).length = (hi - lo).toNat := by unfold rangeZ; simp
theorem rangeZ_mem {lo hi x : Int} : x ∈ rangeZ lo hi ↔ lo ≤ x ∧ x < hi := by
  unfold rangeZ
  constructor
  · intro h
    obtain ⟨k, hk, e⟩ := List.mem_map.mp h
    have := List.mem_range.mp hk
    omega
  · intro h
    refine List.mem_map.mpr ⟨(x - lo).toNat, List.mem_range.mpr ?_, ?_⟩
    · omega
    · omega
/-- a range from its first number -/
theorem rangeZ_cons {lo hi : Int} (h : lo < hi) : rangeZ lo hi = lo :: rangeZ (lo + 1) hi := by
  unfold rangeZ
  have e : (hi - lo).toNat = (hi - (lo + 1)).toNat + 1 := by omega
  rw [e, List.range_succ_eq_map, List.map_cons, List.map_map]
  have e0 : lo + ((0 : Nat) : Int) = lo := by omega
  rw [e0]
  congr 1
  apply List.map_congr_left
  intro k _
  simp
  omega
theorem rangeZ_nil {lo hi : Int} (h : hi ≤ lo) : rangeZ lo hi = [] := by
  unfold rangeZ
  have e : (hi - lo).toNat = 0 := by omega
  rw [e]; rfl
theorem rangeZ_snoc {lo hi : Int} (h : lo < hi) : rangeZ lo hi = rangeZ lo (hi - 1) ++ [hi - 1] := by
  unfold rangeZ
  have e : (hi - lo).toNat = (hi - 1 - lo).toNat + 1 := by omega
  rw [e, List.range_succ, List.map_append]
  congr 1
  simp
  omega
/-- those between two numbers -/
theorem rangeZ_flt {p : Int → Bool} {a b : Int} : ∀ {n : Nat} {lo hi : Int}, (hi - lo).toNat = n → lo ≤ a → a ≤ b → b < hi → (∀ x, lo ≤ x → x < hi → (p x = true ↔ a ≤ x ∧ x ≤ b)) → (rangeZ lo hi).filter p = rangeZ a (b + 1)
  | 0, lo, hi, hn, h1, h2, h3, _ => by omega
  | n + 1, lo, hi, hn, h1, h2, h3, hp => by
    rw [rangeZ_cons (by omega)]
    by_cases e : lo = a
    · subst e
      by_cases e2 : hi = b + 1
      · subst e2
        rw [← rangeZ_cons (by omega)]
        exact List.filter_eq_self.mpr fun x hx => (hp x (rangeZ_mem.mp hx).1 (rangeZ_mem.mp hx).2).mpr (by have := rangeZ_mem.mp hx; omega)
      · rw [← rangeZ_cons (by omega), rangeZ_snoc (by omega), List.filter_append]
        have hl : [hi - 1].filter p = [] := by
          refine List.filter_eq_nil_iff.mpr fun x hx => ?_
          rw [List.mem_singleton.mp hx]
          intro z
          have := (hp (hi - 1) (by omega) (by omega)).mp z
          omega
        rw [hl, List.append_nil]
        exact rangeZ_flt (n := n) (by omega) h1 h2 (by omega) fun x x0 x1 => hp x x0 (by omega)
    · have hl : p lo = false := by
        cases hpl : p lo with
        | false => rfl
        | true =>
          have := (hp lo (by omega) (by omega)).mp hpl
          omega
      rw [List.filter_cons_of_neg (by rw [hl]; decide)]
      exact rangeZ_flt (n := n) (by omega) (by omega) h2 h3 fun x x0 x1 => hp x (by omega) x1
end Wf

namespace Wf
open PySem L2
/-! ### loops over few items, one turn behind the other -/
def FRK (f : D → Env → Sto → Option Fl) (ds : List D) (K : Fl → Prop) : Fl → Prop
  | .nx env S => Ok (frGo f ds env S) K
  | .rt d S => K (.rt d S)
section
variable {f : D → Env → Sto → Option Fl} {d : D} {ds : List D} {K : Fl → Prop} {env : Env} {S : Sto}
theorem fr_cons (h : Ok (f d env S) (FRK f ds K)) : Ok (frGo f (d :: ds) env S) K := by
  obtain ⟨fl, e, q⟩ := h
  unfold Ok
  rw [frGo, e]
  cases fl with
  | nx env' S' => exact q
  | rt d S' => exact ⟨_, rfl, q⟩
theorem fr_nil (h : K (.nx env S)) : Ok (frGo f [] env S) K := ⟨_, rfl, h⟩
theorem FRn (h : Ok (frGo f ds env S) K) : FRK f ds K (.nx env S) := h
theorem FRr (h : K (.rt d S)) : FRK f ds K (.rt d S) := h
end
theorem pd_nil : pdAll [] = some [] := rfl
theorem c_eqNil (ns : List Int) : semCmp .Eq (.lst (ns.map D.int)) (.lst []) = some ns.isEmpty := by
  have h := c_neNil ns
  have h2 : semCmp .NotEq (.lst (ns.map D.int)) (.lst []) = (semCmp .Eq (.lst (ns.map D.int)) (.lst [])).map (!·) := rfl
  rw [h2] at h
  obtain ⟨b, e1, e2⟩ := Option.map_eq_some_iff.mp h
  rw [e1]
  cases b <;> cases hn : ns.isEmpty <;> rw [hn] at e2 <;> first | rfl | (cases e2; done)
theorem meet_emp {a b a' b' : Int} (h : a ≤ b) (h' : a' ≤ b') : ((rangeZ a (b + 1)).filter fun k => decide (a' ≤ k) && decide (k ≤ b')).isEmpty = !(decide (a ≤ b') && decide (a' ≤ b)) := by
  rw [Bool.eq_iff_iff, List.isEmpty_iff, List.filter_eq_nil_iff]
  simp only [rangeZ_mem, Bool.and_eq_true, decide_eq_true_eq, Bool.not_eq_true', Bool.and_eq_false_iff, decide_eq_false_iff_not]
  constructor
  · intro z
    by_cases h1 : a ≤ b'
    · by_cases h2 : a' ≤ b
      · exfalso
        by_cases h3 : a ≤ a'
        · exact z a' ⟨by omega, by omega⟩ ⟨by omega, by omega⟩
        · exact z a ⟨by omega, by omega⟩ ⟨by omega, by omega⟩
      · exact .inr h2
    · exact .inl h1
  · intro z x hx hy
    omega
end Wf
namespace Wf
open PySem L2
/-- a comprehension whose items are drawn: each is an A, what J says of the store is kept -/
theorem Ok_lcA {β γ : Type} {enc : β → D} {e : γ → D} (A : γ → Prop) (J : Sto → Prop) {f : D → Sto → Option (Option D × Sto)} {Q : List D × Sto → Prop} : ∀ {xs : List β} {acc : List D} {S : Sto}, acc.length + xs.length < sizeLine → J S →
    (∀ x ∈ xs, ∀ S, J S → Ok (f (enc x) S) fun p => ∃ g, p.1 = some (e g) ∧ A g ∧ J p.2) → (∀ (gs : List γ) S', gs.length = xs.length → (∀ g ∈ gs, A g) → J S' → Q (acc ++ gs.map e, S')) → Ok (lcGo f (xs.map enc) acc S) Q
  | [], acc, S, _, h0, _, q => by
    have := q [] S rfl (fun _ h => by cases h) h0
    exact ⟨_, rfl, by simpa using this⟩
  | x :: xs, acc, S, hl, h0, hs, q => by
    rw [List.length_cons] at hl
    obtain ⟨⟨o, S1⟩, e1, g, rfl, ga, j1⟩ := hs x List.mem_cons_self S h0
    rw [List.map_cons]
    unfold Ok
    rw [lcGo, e1]
    simp only
    rw [if_pos (by omega)]
    refine Ok_lcA A J (xs := xs) (by rw [List.length_append, List.length_cons, List.length_nil]; omega) j1 (fun y hy => hs y (List.mem_cons_of_mem _ hy)) fun gs S' hg ha hj => ?_
    have := q (g :: gs) S' (by rw [List.length_cons, List.length_cons, hg]) (fun z hz => by rcases List.mem_cons.mp hz with rfl | hz; exact ga; exact ha z hz) hj
    simpa using this
/-- a loop over items: env kept but for some slots -/
theorem Ok_frA {β : Type} {enc : β → D} {f : D → Env → Sto → Option Fl} {K : Fl → Prop} (I : Env → Sto → Prop) : ∀ {xs : List β} {env : Env} {S : Sto}, I env S → (∀ x ∈ xs, ∀ env S, I env S → Ok (f (enc x) env S) fun fl => match fl with | .nx env' S' => I env' S' | .rt d S' => K (.rt d S')) →
    (∀ env S, I env S → K (.nx env S)) → Ok (frGo f (xs.map enc) env S) K
  | [], env, S, h0, _, he => ⟨_, rfl, he _ _ h0⟩
  | x :: xs, env, S, h0, hs, he => by
    obtain ⟨fl, e, q⟩ := hs x List.mem_cons_self env S h0
    rw [List.map_cons]
    unfold Ok
    rw [frGo, e]
    cases fl with
    | nx e S' => exact Ok_frA I (xs := xs) q (fun y hy => hs y (List.mem_cons_of_mem _ hy)) he
    | rt d S' => exact ⟨_, rfl, q⟩
end Wf
namespace Wf
open PySem L2
/-- a loop over items, by those that are done -/
theorem Ok_frP {β : Type} {enc : β → D} {f : D → Env → Sto → Option Fl} {K : Fl → Prop} (I : List β → Env → Sto → Prop) {xs : List β} : ∀ {post pre : List β} {env : Env} {S : Sto}, xs = pre ++ post → I pre env S →
    (∀ pre x post env S, xs = pre ++ x :: post → I pre env S → Ok (f (enc x) env S) fun fl => match fl with | .nx env' S' => I (pre ++ [x]) env' S' | .rt d S' => K (.rt d S')) →
    (∀ env S, I xs env S → K (.nx env S)) → Ok (frGo f (post.map enc) env S) K
  | [], pre, env, S, hx, h0, _, he => ⟨_, rfl, he _ _ (by rw [hx, List.append_nil]; exact h0)⟩
  | x :: post, pre, env, S, hx, h0, hs, he => by
    obtain ⟨fl, e, q⟩ := hs pre x post env S hx h0
    rw [List.map_cons]
    unfold Ok
    rw [frGo, e]
    cases fl with
    | nx e S' => exact Ok_frP I (xs := xs) (post := post) (pre := pre ++ [x]) (by rw [hx]; simp) q hs he
    | rt d S' => exact ⟨_, rfl, q⟩
theorem Ok_fr0 {β : Type} {enc : β → D} {f : D → Env → Sto → Option Fl} {K : Fl → Prop} (I : List β → Env → Sto → Prop) {xs : List β} {env : Env} {S : Sto} (h0 : I [] env S)
    (hs : ∀ pre x post env S, xs = pre ++ x :: post → I pre env S → Ok (f (enc x) env S) fun fl => match fl with | .nx env' S' => I (pre ++ [x]) env' S' | .rt d S' => K (.rt d S'))
    (he : ∀ env S, I xs env S → K (.nx env S)) : Ok (frGo f (xs.map enc) env S) K := Ok_frP I (xs := xs) (pre := []) rfl h0 hs he
end Wf
set_option Elab.async false
set_option linter.all false
/-! Lands, rooms, pads as plain data. -/
namespace Wf
open PySem L2
structure Bx where
  a : Int
  b : Int
  c : Int
  d : Int
def Bx.t (x : Bx) : D := .tup [.int x.a, .int x.b, .int x.c, .int x.d]
structure Rm where
  a : Int
  b : Int
  c : Int
  d : Int
  f : Int
  l : Int
def Rm.t (x : Rm) : D := .tup [.int x.a, .int x.b, .int x.c, .int x.d, .int x.f, .int x.l]
structure Pd where
  a : Int
  b : Int
  c : Int
  d : Int
  m : Int
def Pd.t (x : Pd) : D := .tup [.int x.a, .int x.b, .int x.c, .int x.d, .int x.m]
def rowT (r : List Int) : D := .tup (r.map D.int)
def hsT : Option (List (List Int)) → D
  | none => .non
  | some r => .tup (r.map rowT)
structure Land where
  w : Int
  h : Int
  day : Int
  hs : Option (List (List Int))
  bar : List Rm
  peo : List Rm
  pads : List Pd
def Land.fs (L : Land) : List (Str × D) := [("wide", .int L.w), ("high", .int L.h), ("day", .int L.day), ("heights", hsT L.hs), ("barred", .tup (L.bar.map Rm.t)), ("people", .tup (L.peo.map Rm.t)), ("pads", .tup (L.pads.map Pd.t))]
structure BxOk (w h a b c d : Int) : Prop where
  a0 : 0 ≤ a
  b0 : 0 ≤ b
  ac : a ≤ c
  bd : b ≤ d
  c1 : c < w
  d1 : d < h
structure RmOk (w h day : Int) (r : Rm) : Prop where
  bx : BxOk w h r.a r.b r.c r.d
  f0 : 0 ≤ r.f
  fl : r.f ≤ r.l
  l1 : r.l ≤ day
structure PdOk (w h : Int) (r : Pd) : Prop where
  bx : BxOk w h r.a r.b r.c r.d
  m0 : 1 ≤ r.m
  m1 : r.m ≤ 4
/-- two boxes that share a square, by their sides -/
def share (a b c d a' b' c' d' : Int) : Bool := decide (a ≤ c') && (decide (a' ≤ c) && (decide (b ≤ d') && decide (b' ≤ d)))
def Pd.share (p q : Pd) : Bool := Wf.share p.a p.b p.c p.d q.a q.b q.c q.d
structure Land.Ok (L : Land) : Prop where
  w0 : 1 ≤ L.w
  w1 : L.w ≤ 12
  h0 : 1 ≤ L.h
  h1 : L.h ≤ 12
  d0 : 1 ≤ L.day
  d1 : L.day ≤ 24
  hs : ∀ r, L.hs = some r → (r.length : Int) = L.h ∧ ∀ l ∈ r, (l.length : Int) = L.w ∧ ∀ x ∈ l, 0 ≤ x ∧ x ≤ 9
  bl : L.bar.length ≤ 8
  bar : ∀ r ∈ L.bar, RmOk L.w L.h L.day r
  pl : L.peo.length ≤ 8
  peo : ∀ r ∈ L.peo, RmOk L.w L.h L.day r
  dl : L.pads.length ≤ 4
  pads : ∀ r ∈ L.pads, PdOk L.w L.h r
  apart : L.pads.Pairwise fun p q => q.share p = false
/-- an object with the fields of a land's sizes -/
structure LdS (S : Sto) (i : Nat) (w h d : Int) (fs : List (Str × D)) : Prop where
  at_ : S[i]? = some (.ins 0 fs)
  wide : fs.lookup ("wide" : Str) = some (.int w)
  high : fs.lookup ("high" : Str) = some (.int h)
  day : fs.lookup ("day" : Str) = some (.int d)
def LdAt (S : Sto) (i : Nat) (L : Land) : Prop := S[i]? = some (.ins 0 L.fs)
theorem LdAt.s {S : Sto} {i : Nat} {L : Land} (h : LdAt S i L) : LdS S i L.w L.h L.day L.fs := ⟨h, rfl, rfl, rfl⟩
section
variable {L : Land}
theorem lk_w : L.fs.lookup ("wide" : Str) = some (.int L.w) := rfl
theorem lk_h : L.fs.lookup ("high" : Str) = some (.int L.h) := rfl
theorem lk_d : L.fs.lookup ("day" : Str) = some (.int L.day) := rfl
theorem lk_hs : L.fs.lookup ("heights" : Str) = some (hsT L.hs) := rfl
theorem lk_bar : L.fs.lookup ("barred" : Str) = some (.tup (L.bar.map Rm.t)) := rfl
theorem lk_peo : L.fs.lookup ("people" : Str) = some (.tup (L.peo.map Rm.t)) := rfl
theorem lk_pads : L.fs.lookup ("pads" : Str) = some (.tup (L.pads.map Pd.t)) := rfl
end
section
variable {i j k : Int} {xs : List D}
theorem f_min3 : semBi .min [.int i, .int j, .int k] = some (.int (if k < (if j < i then j else i) then k else (if j < i then j else i))) := rfl
theorem f_max3 : semBi .max [.int i, .int j, .int k] = some (.int (if k > (if j > i then j else i) then k else (if j > i then j else i))) := rfl
theorem f_allB {bs : List Bool} : semBi .all [.lst (bs.map D.bl)] = some (.bl (bs.all id)) := by
  have := f_all (p := id) (xs := bs)
  exact this
theorem f_anyB {bs : List Bool} : semBi .any [.lst (bs.map D.bl)] = some (.bl (bs.any id)) := by
  have := f_any (p := id) (xs := bs)
  exact this
theorem f_allT {β : Type} {xs : List β} : semBi .all [.lst (xs.map fun _ => D.bl true)] = some (.bl true) := by
  rw [f_all (p := fun _ => true)]
  simp
theorem f_anyF {β : Type} {xs : List β} : semBi .any [.lst (xs.map fun _ => D.bl false)] = some (.bl false) := by
  rw [f_any (p := fun _ => false)]
  simp
theorem mapT_of {β : Type} {p : β → D} {c : D} {xs : List β} (h : ∀ x ∈ xs, p x = c) : xs.map p = xs.map fun _ => c := List.map_congr_left h
theorem enum_map {β : Type} {enc : β → D} : ∀ {xs : List β} {k : Nat}, enumD k (xs.map enc) = (xs.zipIdx k).map fun p => .tup [.int (p.2 : Nat), enc p.1]
  | [], _ => rfl
  | x :: xs, k => by
    rw [List.map_cons, enumD, enum_map (xs := xs), List.zipIdx_cons, List.map_cons]
end
section
variable {x : Bx} {S : Sto}
theorem tp_Bx : top S x.t = x.t := rfl
theorem sq_Bx : seqD x.t = some [.int x.a, .int x.b, .int x.c, .int x.d] := rfl
theorem ix_Bx_0 : semIx x.t (.int 0) = some (.int x.a) := rfl
theorem ix_Bx_1 : semIx x.t (.int 1) = some (.int x.b) := rfl
theorem ix_Bx_2 : semIx x.t (.int 2) = some (.int x.c) := rfl
theorem ix_Bx_3 : semIx x.t (.int 3) = some (.int x.d) := rfl
theorem ix_Bx_m1 : semIx x.t (.int (-1)) = some (.int x.d) := rfl
theorem ix_Bx_m2 : semIx x.t (.int (-2)) = some (.int x.c) := rfl
theorem ix_Bx_m3 : semIx x.t (.int (-3)) = some (.int x.b) := rfl
theorem len_Bx : semBi .len [x.t] = some (.int 4) := rfl
theorem non_Bx : isNon x.t = false := rfl
end
section
variable {x : Rm} {S : Sto}
theorem tp_Rm : top S x.t = x.t := rfl
theorem sq_Rm : seqD x.t = some [.int x.a, .int x.b, .int x.c, .int x.d, .int x.f, .int x.l] := rfl
theorem ix_Rm_0 : semIx x.t (.int 0) = some (.int x.a) := rfl
theorem ix_Rm_1 : semIx x.t (.int 1) = some (.int x.b) := rfl
theorem ix_Rm_2 : semIx x.t (.int 2) = some (.int x.c) := rfl
theorem ix_Rm_3 : semIx x.t (.int 3) = some (.int x.d) := rfl
theorem ix_Rm_4 : semIx x.t (.int 4) = some (.int x.f) := rfl
theorem ix_Rm_5 : semIx x.t (.int 5) = some (.int x.l) := rfl
theorem ix_Rm_m1 : semIx x.t (.int (-1)) = some (.int x.l) := rfl
theorem ix_Rm_m2 : semIx x.t (.int (-2)) = some (.int x.f) := rfl
theorem ix_Rm_m3 : semIx x.t (.int (-3)) = some (.int x.d) := rfl
theorem len_Rm : semBi .len [x.t] = some (.int 6) := rfl
theorem non_Rm : isNon x.t = false := rfl
end
section
variable {x : Pd} {S : Sto}
theorem tp_Pd : top S x.t = x.t := rfl
theorem sq_Pd : seqD x.t = some [.int x.a, .int x.b, .int x.c, .int x.d, .int x.m] := rfl
theorem ix_Pd_0 : semIx x.t (.int 0) = some (.int x.a) := rfl
theorem ix_Pd_1 : semIx x.t (.int 1) = some (.int x.b) := rfl
theorem ix_Pd_2 : semIx x.t (.int 2) = some (.int x.c) := rfl
theorem ix_Pd_3 : semIx x.t (.int 3) = some (.int x.d) := rfl
theorem ix_Pd_4 : semIx x.t (.int 4) = some (.int x.m) := rfl
theorem ix_Pd_m1 : semIx x.t (.int (-1)) = some (.int x.m) := rfl
theorem ix_Pd_m2 : semIx x.t (.int (-2)) = some (.int x.d) := rfl
theorem ix_Pd_m3 : semIx x.t (.int (-3)) = some (.int x.c) := rfl
theorem len_Pd : semBi .len [x.t] = some (.int 5) := rfl
theorem non_Pd : isNon x.t = false := rfl
end
end Wf
set_option Elab.async false
set_option linter.all false
namespace Wf
open PySem L2
/-! ### repr: what may be shown -/
def Rp (d : D) (w k : Nat) : Prop := ∃ p, d.pd = some p ∧ p.showable = true ∧ p.shown.length ≤ w ∧ p.depth ≤ k
def RpS (ds : List D) (w k : Nat) : Prop := ∃ ps, pdAll ds = some ps ∧ PyData.showableAll ps = true ∧ ((PyData.shownAll ps).map (·.length)).sum + 2 * (PyData.shownAll ps).length ≤ w ∧ PyData.depthAll ps ≤ k
def shD (d : D) : Str := match d.pd with
  | some p => p.shown
  | none => Str.empty
section
variable {w k w1 w2 : Nat} {d : D} {ds : List D}
theorem Rp.non : Rp .non 4 k := ⟨.none, rfl, rfl, by decide, Nat.zero_le _⟩
theorem Rp.bl {b : Bool} : Rp (.bl b) 5 k := ⟨.bool b, rfl, rfl, by cases b <;> decide, Nat.zero_le _⟩
theorem Rp.int {i : Int} (h : -1000000000000 < i ∧ i < 1000000000000) : Rp (.int i) 13 k := by
  have h2 : i.natAbs < 10 ^ 12 := by omega
  refine ⟨.int i, rfl, ?_, PyData.shown_int_le h2, Nat.zero_le _⟩
  rw [PyData.showable, decide_eq_true_eq]
  by_cases z : i.natAbs = 0
  · rw [z]; decide
  · have := (Nat.log2_lt z (k := 40)).mpr (Nat.lt_of_lt_of_le h2 (by decide))
    omega
theorem Rp.str {x : Str} (h : (x.cps.toList.all fun c => decide (c < 16 ^ 8)) = true) : Rp (.str x) (10 * x.length + 2) k := by
  refine ⟨.str x, rfl, rfl, ?_, Nat.zero_le _⟩
  rw [PyData.shown]
  exact StrLaws.reprText_len x fun c hc => of_decide_eq_true (List.all_eq_true.mp h c hc)
theorem RpS.nil : RpS [] 0 k := ⟨[], rfl, rfl, Nat.le_refl _, Nat.zero_le _⟩
theorem RpS.cons (h : Rp d w1 k) (hs : RpS ds w2 k) : RpS (d :: ds) (w1 + w2 + 2) k := by
  obtain ⟨p, e1, e2, e3, e4⟩ := h
  obtain ⟨ps, f1, f2, f3, f4⟩ := hs
  refine ⟨p :: ps, by rw [pdAll, e1, f1], by rw [PyData.showableAll, e2, f2]; rfl, ?_, ?_⟩
  · rw [PyData.shownAll]
    simp only [List.map_cons, List.sum_cons, List.length_cons]
    omega
  · rw [PyData.depthAll]; omega
theorem Rp.tup (h : RpS ds w k) : Rp (.tup ds) (w + 3) (k + 1) := by
  obtain ⟨ps, f1, f2, f3, f4⟩ := h
  refine ⟨.tuple ps, by rw [D.pd, f1]; rfl, by rw [PyData.showable]; exact f2, ?_, by rw [PyData.depth]; omega⟩
  rw [PyData.shown]
  have := tupleText_len_le (PyData.shownAll ps)
  omega
theorem Rp.lst (h : RpS ds w k) : Rp (.lst ds) (w + 3) (k + 1) := by
  obtain ⟨ps, f1, f2, f3, f4⟩ := h
  refine ⟨.list ps, by rw [D.pd, f1]; rfl, by rw [PyData.showable]; exact f2, ?_, by rw [PyData.depth]; omega⟩
  rw [PyData.shown]
  have := listText_len_le (PyData.shownAll ps)
  omega
theorem Rp.wide {w' k' : Nat} (h : Rp d w k) (hw : w ≤ w') (hk : k ≤ k') : Rp d w' k' := by
  obtain ⟨p, e1, e2, e3, e4⟩ := h
  exact ⟨p, e1, e2, Nat.le_trans e3 hw, Nat.le_trans e4 hk⟩
theorem f_repr (h : Rp d w k) (hw : w ≤ sizeLine) (hk : k ≤ 64) : semBi .repr [d] = some (.str (shD d)) := by
  obtain ⟨p, e1, e2, e3, e4⟩ := h
  unfold semBi shD
  simp only [e1, e2, Bool.true_and]
  rw [if_pos]
  rw [Bool.and_eq_true, decide_eq_true_eq, decide_eq_true_eq]
  exact ⟨by omega, by omega⟩
end
end Wf
set_option Elab.async false
set_option linter.all false
namespace Wf
open PySem L2
section
variable {w k : Nat} {d : D}
theorem RpS.map {β : Type} {g : β → D} : ∀ {xs : List β}, (∀ x ∈ xs, Rp (g x) w k) → RpS (xs.map g) (xs.length * (w + 2)) k
  | [], _ => by simpa using (RpS.nil (k := k))
  | x :: xs, h => by
    have h1 := h x List.mem_cons_self
    have h2 := RpS.map (xs := xs) fun y hy => h y (List.mem_cons_of_mem _ hy)
    have h3 := RpS.cons h1 h2
    rw [List.map_cons, List.length_cons, Nat.succ_mul]
    have e : w + xs.length * (w + 2) + 2 = xs.length * (w + 2) + (w + 2) := by omega
    rw [← e]
    exact h3
theorem RpS.wide {ds : List D} {w' k' : Nat} (h : RpS ds w k) (hw : w ≤ w') (hk : k ≤ k') : RpS ds w' k' := by
  obtain ⟨ps, e1, e2, e3, e4⟩ := h
  exact ⟨ps, e1, e2, Nat.le_trans e3 hw, Nat.le_trans e4 hk⟩
/-- small whole numbers -/
def Sm (i : Int) : Prop := -1000000000000 < i ∧ i < 1000000000000
theorem Rp.i {i : Int} (h : Sm i) : Rp (.int i) 13 0 := Rp.int h
theorem Rp.ints {xs : List Int} (h : ∀ x ∈ xs, Sm x) : Rp (.tup (xs.map D.int)) (xs.length * 15 + 3) 1 := Rp.tup (RpS.map fun x hx => Rp.i (h x hx))
end
theorem RmOk.rp {r : Rm} {x y z : Int} (h : RmOk x y z r) (hx : x ≤ 100) (hy : y ≤ 100) (hz : z ≤ 100) : Rp r.t 93 1 := by
  obtain ⟨⟨h1, h2, h3, h4, h5, h6⟩, h7, h8, h9⟩ := h
  refine Rp.ints (xs := [r.a, r.b, r.c, r.d, r.f, r.l]) fun x hx => ?_
  unfold Sm
  simp only [List.mem_cons, List.not_mem_nil, or_false] at hx
  omega
theorem Bx.rp {r : Bx} {x y : Int} (hx : x ≤ 100) (hy : y ≤ 100) (h : BxOk x y r.a r.b r.c r.d) : Rp r.t 63 1 := by
  obtain ⟨h1, h2, h3, h4, h5, h6⟩ := h
  refine Rp.ints (xs := [r.a, r.b, r.c, r.d]) fun x hx => ?_
  unfold Sm
  simp only [List.mem_cons, List.not_mem_nil, or_false] at hx
  omega
theorem PdOk.rp {r : Pd} {x y : Int} (h : PdOk x y r) (hx : x ≤ 100) (hy : y ≤ 100) : Rp r.t 78 1 := by
  obtain ⟨⟨h1, h2, h3, h4, h5, h6⟩, h7, h8⟩ := h
  refine Rp.ints (xs := [r.a, r.b, r.c, r.d, r.m]) fun x hx => ?_
  unfold Sm
  simp only [List.mem_cons, List.not_mem_nil, or_false] at hx
  omega
theorem f_rp {d : D} {w k : Nat} (h : Rp d w k) (hw : w ≤ 10000000) (hk : k ≤ 64) : semBi .repr [d] = some (.str (shD d)) := f_repr h (by unfold sizeLine; omega) hk
end Wf
set_option Elab.async false
set_option linter.all false
/-! Flyers, rows, tasks, flights as plain data. -/
namespace Wf
open PySem L2
inductive Tk where
  | no | look (b : Bx) (f l : Int) | bring (b o : Bx) (n f l : Int) | over (b : Bx) (n f l : Int)
def Tk.t : Tk → D
  | .no => .non
  | .look b f l => .tup [.str "look", b.t, .int f, .int l]
  | .bring b o n f l => .tup [.str "bring", b.t, o.t, .int n, .int f, .int l]
  | .over b n f l => .tup [.str "over", b.t, .int n, .int f, .int l]
def lastF : Tk → Int
  | .no => 0 | .look _ _ _ => 1 | .bring _ _ _ _ _ => 2 | .over _ n _ _ => n
inductive Row where
  | go (x y : Int) | aim (x y : Int) | stand | home
def Row.t : Row → D
  | .go x y => .tup [.str "go", .int x, .int y]
  | .aim x y => .tup [.str "aim", .int x, .int y]
  | .stand => .tup [.str "stand"]
  | .home => .tup [.str "home"]
def wayT (w : List Row) : D := .tup (w.map Row.t)
structure Fy where
  r : Int
  c : Int
  f : Int
  g : Int
def Fy.t (x : Fy) : D := .tup [.int x.r, .int x.c, .int x.f, .int x.g]
structure St where
  x : Int
  y : Int
  s : Int
  c : Int
def St.t (x : St) : D := .tup [.int x.x, .int x.y, .int x.s, .int x.c]
structure Flt where
  fy : Fy
  st : St
  way : List Row
  task : Tk
  home : Int
def Flt.t (x : Flt) : D := .tup [x.fy.t, x.st.t, wayT x.way, x.task.t, .int x.home]
def BxOk' (w h : Int) (b : Bx) : Prop := BxOk w h b.a b.b b.c b.d
def Tk.boxes : Tk → List Bx
  | .no => [] | .look b _ _ => [b] | .bring b o _ _ _ => [b, o] | .over b _ _ _ => [b]
def Tk.hrs (day : Int) : Tk → Prop
  | .no => True | .look _ f l => 0 ≤ f ∧ f ≤ l ∧ l ≤ day | .bring _ _ n f l => 0 ≤ n ∧ n ≤ 9 ∧ 0 ≤ f ∧ f ≤ l ∧ l ≤ day | .over _ n f l => 1 ≤ n ∧ n ≤ 9 ∧ 0 ≤ f ∧ f ≤ l ∧ l ≤ day
structure TkOk (w h day : Int) (t : Tk) : Prop where
  box : ∀ b ∈ t.boxes, BxOk' w h b
  hrs : t.hrs day
theorem TkOk.last {w h day : Int} {t : Tk} (z : TkOk w h day t) : 0 ≤ lastF t ∧ lastF t ≤ 9 := by
  have := z.hrs
  cases t <;> simp only [lastF, Tk.hrs] at * <;> omega
def RowOk : Row → Prop
  | .go x y => -2 ≤ x ∧ x ≤ 2 ∧ -2 ≤ y ∧ y ≤ 2
  | .aim x y => 0 ≤ x ∧ x ≤ 11 ∧ 0 ≤ y ∧ y ≤ 11
  | .stand => True
  | .home => True
structure FyOk (x : Fy) : Prop where
  r0 : 0 ≤ x.r
  r1 : x.r ≤ 2
  c0 : 0 ≤ x.c
  c1 : x.c ≤ 9
  f0 : 1 ≤ x.f
  f1 : x.f ≤ 99
  g0 : 1 ≤ x.g
  g1 : x.g ≤ 9
structure FltOk (L : Land) (x : Flt) : Prop where
  fy : FyOk x.fy
  x0 : 0 ≤ x.st.x
  x1 : x.st.x < L.w
  y0 : 0 ≤ x.st.y
  y1 : x.st.y < L.h
  s0 : 0 ≤ x.st.s
  s1 : x.st.s ≤ lastF x.task
  c0 : 0 ≤ x.st.c
  c1 : x.st.c ≤ x.fy.f
  wl : x.way.length ≤ 24
  way : ∀ r ∈ x.way, RowOk r
  task : TkOk L.w L.h L.day x.task
  h0 : 0 ≤ x.home
  h1 : x.home < L.pads.length
/-- the law's own land, a dict -/
def Land.dct (L : Land) : D := .dct [(.inr "wide", .int L.w), (.inr "high", .int L.h), (.inr "day", .int L.day), (.inr "heights", hsT L.hs), (.inr "barred", .tup (L.bar.map Rm.t)), (.inr "people", .tup (L.peo.map Rm.t)), (.inr "pads", .tup (L.pads.map Pd.t))]
section
variable {L : Land} {S : Sto}
theorem tp_Ld : top S L.dct = L.dct := rfl
theorem ix_Ld_w : semIx L.dct (.str "wide") = some (.int L.w) := rfl
theorem ix_Ld_h : semIx L.dct (.str "high") = some (.int L.h) := rfl
theorem ix_Ld_d : semIx L.dct (.str "day") = some (.int L.day) := rfl
theorem ix_Ld_hs : semIx L.dct (.str "heights") = some (hsT L.hs) := rfl
theorem ix_Ld_bar : semIx L.dct (.str "barred") = some (.tup (L.bar.map Rm.t)) := rfl
theorem ix_Ld_peo : semIx L.dct (.str "people") = some (.tup (L.peo.map Rm.t)) := rfl
theorem ix_Ld_pads : semIx L.dct (.str "pads") = some (.tup (L.pads.map Pd.t)) := rfl
theorem tp_hs {o : Option (List (List Int))} : top S (hsT o) = hsT o := by cases o <;> rfl
theorem tp_Tk {t : Tk} : top S t.t = t.t := by cases t <;> rfl
theorem tp_Row {r : Row} : top S r.t = r.t := by cases r <;> rfl
theorem tp_way {w : List Row} : top S (wayT w) = wayT w := rfl
theorem sq_way {w : List Row} : seqD (wayT w) = some (w.map Row.t) := rfl
theorem len_way {w : List Row} : semBi .len [wayT w] = some (.int w.length) := by
  show some (D.int ((w.map Row.t).length : Nat)) = _
  rw [List.length_map]
theorem non_Row {r : Row} : isNon r.t = false := by cases r <;> rfl
end
section
variable {x : Fy} {S : Sto}
theorem tp_Fy : top S x.t = x.t := rfl
theorem sq_Fy : seqD x.t = some [.int x.r, .int x.c, .int x.f, .int x.g] := rfl
theorem ix_Fy_0 : semIx x.t (.int 0) = some (.int x.r) := rfl
theorem ix_Fy_1 : semIx x.t (.int 1) = some (.int x.c) := rfl
theorem ix_Fy_2 : semIx x.t (.int 2) = some (.int x.f) := rfl
theorem ix_Fy_3 : semIx x.t (.int 3) = some (.int x.g) := rfl
theorem ix_Fy_m1 : semIx x.t (.int (-1)) = some (.int x.g) := rfl
theorem ix_Fy_m2 : semIx x.t (.int (-2)) = some (.int x.f) := rfl
theorem ix_Fy_m3 : semIx x.t (.int (-3)) = some (.int x.c) := rfl
theorem len_Fy : semBi .len [x.t] = some (.int 4) := rfl
theorem non_Fy : isNon x.t = false := rfl
end
section
variable {x : St} {S : Sto}
theorem tp_St : top S x.t = x.t := rfl
theorem sq_St : seqD x.t = some [.int x.x, .int x.y, .int x.s, .int x.c] := rfl
theorem ix_St_0 : semIx x.t (.int 0) = some (.int x.x) := rfl
theorem ix_St_1 : semIx x.t (.int 1) = some (.int x.y) := rfl
theorem ix_St_2 : semIx x.t (.int 2) = some (.int x.s) := rfl
theorem ix_St_3 : semIx x.t (.int 3) = some (.int x.c) := rfl
theorem ix_St_m1 : semIx x.t (.int (-1)) = some (.int x.c) := rfl
theorem ix_St_m2 : semIx x.t (.int (-2)) = some (.int x.s) := rfl
theorem ix_St_m3 : semIx x.t (.int (-3)) = some (.int x.y) := rfl
theorem len_St : semBi .len [x.t] = some (.int 4) := rfl
theorem non_St : isNon x.t = false := rfl
end
section
variable {x : Flt} {S : Sto}
theorem tp_Flt : top S x.t = x.t := rfl
theorem sq_Flt : seqD x.t = some [x.fy.t, x.st.t, wayT x.way, x.task.t, .int x.home] := rfl
theorem ix_Flt_0 : semIx x.t (.int 0) = some (x.fy.t) := rfl
theorem ix_Flt_1 : semIx x.t (.int 1) = some (x.st.t) := rfl
theorem ix_Flt_2 : semIx x.t (.int 2) = some (wayT x.way) := rfl
theorem ix_Flt_3 : semIx x.t (.int 3) = some (x.task.t) := rfl
theorem ix_Flt_4 : semIx x.t (.int 4) = some (.int x.home) := rfl
theorem ix_Flt_m1 : semIx x.t (.int (-1)) = some (.int x.home) := rfl
theorem ix_Flt_m2 : semIx x.t (.int (-2)) = some (x.task.t) := rfl
theorem ix_Flt_m3 : semIx x.t (.int (-3)) = some (wayT x.way) := rfl
theorem len_Flt : semBi .len [x.t] = some (.int 5) := rfl
theorem non_Flt : isNon x.t = false := rfl
end
end Wf
set_option Elab.async false
set_option linter.all false
set_option maxRecDepth 100000
namespace Wf
open PySem L2
local macro_rules | `(tactic| simp_arith only [$xs,*]) => `(tactic| simp +decide only [Ok_cons, Ok_nil, SK_nx, SK_rt, FK_rt, FK_nx, evS, evE, evP, evEs, evQs, evPs, evO, evC, evI, evMs, setAll, ownS, Ok_bind, Ok_map, Ok_some, Ok_none, Ok_ite, getS, peekS, setS, wipeS, orc, permA, keyOf, List.map_cons, List.map_nil, List.cons_append, List.nil_append, List.append_nil, List.replicate, List.length_cons, List.length_nil, List.getElem?_cons_zero, List.getElem?_cons_succ, List.set_cons_zero, List.set_cons_succ, Option.map_some, Option.bind_some, Option.map_none, Option.bind_none, asgT, asgTs, sq_t, sq_l, Ts.len, starD, List.take_succ_cons, List.take_zero, List.drop_succ_cons, List.drop_zero, List.take_nil, List.drop_nil, List.flatten_cons, List.flatten_nil, List.foldl_cons, List.foldl_nil, tp_n, tp_b, tp_i, tp_s, tp_t, tp_l, tp_d, tp_k, tp_c, tp_r0, tp_r1, ix_l, ix_t, ix_k, ix_d, ix_di, at0, at1, at2, at3, at4, at5, at6, at7, atm1, atm2, atm3, b_add, b_sub, b_mul, b_div, b_mod, b_pow, b_addT, b_addL, b_mulL, c_lt, c_le, c_gt, c_ge, c_eq, c_ne, c_eqs, c_nes, c_is, c_isnt, n_n, n_t, n_i, n_l, bl_b, int_i, f_len, f_lenT, f_min, f_max, f_min3, f_max3, f_abs, f_intB, f_int, f_tup, f_tupT, f_lst, f_lstT, f_sum, r_l0, r_l1, ints_map, c_neNil, c_eqNil, c_ne00, sz0, pt0, pt1, pt2, isi_i, isi_t, isi_n, isi_b, isi_l, isi_s, cutT, cutL, cut_to, cut_from, fold_and, fold_or, fold_ite, fold_iteI, fold_iteB, fold_flt, ite_bF, ite_bT, szle, szlt, sm62_i, tp_Bx, sq_Bx, ix_Bx_0, ix_Bx_1, ix_Bx_2, ix_Bx_3, ix_Bx_m1, ix_Bx_m2, ix_Bx_m3, len_Bx, non_Bx, tp_Rm, sq_Rm, ix_Rm_0, ix_Rm_1, ix_Rm_2, ix_Rm_3, ix_Rm_4, ix_Rm_5, ix_Rm_m1, ix_Rm_m2, ix_Rm_m3, len_Rm, non_Rm, tp_Pd, sq_Pd, ix_Pd_0, ix_Pd_1, ix_Pd_2, ix_Pd_3, ix_Pd_4, ix_Pd_m1, ix_Pd_m2, ix_Pd_m3, len_Pd, non_Pd, reduceIte, if_true, if_false, ite_true, ite_false, if_false_right, if_false_left, decide_eq_true_eq, Bool.not_eq_true', Bool.not_true, Bool.not_false, decide_eq_false_iff_not, Bool.false_eq_true, Bool.true_and, Bool.and_true, Bool.false_and, Bool.and_false, Bool.or_true, Bool.or_false, Bool.false_or, Bool.true_or, reduceCtorEq, true_and, and_true, Int.reduceLT, Int.reduceLE, Int.reducePow, Int.reduceNeg, Int.reduceMul, Int.reduceAdd, Int.reduceSub, Int.reduceToNat, Int.reduceEq, na10, Nat.reducePow, Nat.reduceLT, Nat.reduceLeDiff, Nat.reduceAdd, Nat.reduceSub, true_or, or_true, and_self, decide_true, decide_false, Bool.decide_eq_true, Bool.and_self, Bool.not_not, eq_self, not_true_eq_false, not_false_eq_true, $xs,*])
local macro_rules | `(tactic| simp_arith only [$xs,*] at $h:ident) => `(tactic| simp +decide only [Ok_cons, Ok_nil, SK_nx, SK_rt, FK_rt, FK_nx, evS, evE, evP, evEs, evQs, evPs, evO, evC, evI, evMs, setAll, ownS, Ok_bind, Ok_map, Ok_some, Ok_none, Ok_ite, getS, peekS, setS, wipeS, orc, permA, keyOf, List.map_cons, List.map_nil, List.cons_append, List.nil_append, List.append_nil, List.replicate, List.length_cons, List.length_nil, List.getElem?_cons_zero, List.getElem?_cons_succ, List.set_cons_zero, List.set_cons_succ, Option.map_some, Option.bind_some, Option.map_none, Option.bind_none, asgT, asgTs, sq_t, sq_l, Ts.len, starD, List.take_succ_cons, List.take_zero, List.drop_succ_cons, List.drop_zero, List.take_nil, List.drop_nil, List.flatten_cons, List.flatten_nil, List.foldl_cons, List.foldl_nil, tp_n, tp_b, tp_i, tp_s, tp_t, tp_l, tp_d, tp_k, tp_c, tp_r0, tp_r1, ix_l, ix_t, ix_k, ix_d, ix_di, at0, at1, at2, at3, at4, at5, at6, at7, atm1, atm2, atm3, b_add, b_sub, b_mul, b_div, b_mod, b_pow, b_addT, b_addL, b_mulL, c_lt, c_le, c_gt, c_ge, c_eq, c_ne, c_eqs, c_nes, c_is, c_isnt, n_n, n_t, n_i, n_l, bl_b, int_i, f_len, f_lenT, f_min, f_max, f_min3, f_max3, f_abs, f_intB, f_int, f_tup, f_tupT, f_lst, f_lstT, f_sum, r_l0, r_l1, ints_map, c_neNil, c_eqNil, c_ne00, sz0, pt0, pt1, pt2, isi_i, isi_t, isi_n, isi_b, isi_l, isi_s, cutT, cutL, cut_to, cut_from, fold_and, fold_or, fold_ite, fold_iteI, fold_iteB, fold_flt, ite_bF, ite_bT, szle, szlt, sm62_i, tp_Bx, sq_Bx, ix_Bx_0, ix_Bx_1, ix_Bx_2, ix_Bx_3, ix_Bx_m1, ix_Bx_m2, ix_Bx_m3, len_Bx, non_Bx, tp_Rm, sq_Rm, ix_Rm_0, ix_Rm_1, ix_Rm_2, ix_Rm_3, ix_Rm_4, ix_Rm_5, ix_Rm_m1, ix_Rm_m2, ix_Rm_m3, len_Rm, non_Rm, tp_Pd, sq_Pd, ix_Pd_0, ix_Pd_1, ix_Pd_2, ix_Pd_3, ix_Pd_4, ix_Pd_m1, ix_Pd_m2, ix_Pd_m3, len_Pd, non_Pd, reduceIte, if_true, if_false, ite_true, ite_false, if_false_right, if_false_left, decide_eq_true_eq, Bool.not_eq_true', Bool.not_true, Bool.not_false, decide_eq_false_iff_not, Bool.false_eq_true, Bool.true_and, Bool.and_true, Bool.false_and, Bool.and_false, Bool.or_true, Bool.or_false, Bool.false_or, Bool.true_or, reduceCtorEq, true_and, and_true, Int.reduceLT, Int.reduceLE, Int.reducePow, Int.reduceNeg, Int.reduceMul, Int.reduceAdd, Int.reduceSub, Int.reduceToNat, Int.reduceEq, na10, Nat.reducePow, Nat.reduceLT, Nat.reduceLeDiff, Nat.reduceAdd, Nat.reduceSub, true_or, or_true, and_self, decide_true, decide_false, Bool.decide_eq_true, Bool.and_self, Bool.not_not, eq_self, not_true_eq_false, not_false_eq_true, $xs,*] at $h:ident)
local macro_rules | `(tactic| simp_arith [$xs,*]) => `(tactic| repeat (first | with_reducible (refine SKn ?_) | with_reducible (refine SKr ?_) | with_reducible (refine Okc ?_) | with_reducible (refine Okn ?_) | with_reducible (refine FRn ?_) | with_reducible (refine FRr ?_) | with_reducible (refine fr_cons ?_) | with_reducible (refine fr_nil ?_) | simp +decide only [FK_rt, FK_nx, evS, evE, evP, evEs, evQs, evPs, evO, evC, evI, evMs, setAll, ownS, Ok_bind, Ok_map, Ok_some, Ok_none, Ok_ite, getS, peekS, setS, wipeS, orc, permA, keyOf, List.map_cons, List.map_nil, List.cons_append, List.nil_append, List.append_nil, List.replicate, List.length_cons, List.length_nil, List.getElem?_cons_zero, List.getElem?_cons_succ, List.set_cons_zero, List.set_cons_succ, Option.map_some, Option.bind_some, Option.map_none, Option.bind_none, asgT, asgTs, sq_t, sq_l, Ts.len, starD, List.take_succ_cons, List.take_zero, List.drop_succ_cons, List.drop_zero, List.take_nil, List.drop_nil, List.flatten_cons, List.flatten_nil, List.foldl_cons, List.foldl_nil, tp_n, tp_b, tp_i, tp_s, tp_t, tp_l, tp_d, tp_k, tp_c, tp_r0, tp_r1, ix_l, ix_t, ix_k, ix_d, ix_di, at0, at1, at2, at3, at4, at5, at6, at7, atm1, atm2, atm3, b_add, b_sub, b_mul, b_div, b_mod, b_pow, b_addT, b_addL, b_mulL, c_lt, c_le, c_gt, c_ge, c_eq, c_ne, c_eqs, c_nes, c_is, c_isnt, n_n, n_t, n_i, n_l, bl_b, int_i, f_len, f_lenT, f_min, f_max, f_min3, f_max3, f_abs, f_intB, f_int, f_tup, f_tupT, f_lst, f_lstT, f_sum, r_l0, r_l1, ints_map, c_neNil, c_eqNil, c_ne00, sz0, pt0, pt1, pt2, isi_i, isi_t, isi_n, isi_b, isi_l, isi_s, cutT, cutL, cut_to, cut_from, fold_and, fold_or, fold_ite, fold_iteI, fold_iteB, fold_flt, ite_bF, ite_bT, szle, szlt, sm62_i, tp_Bx, sq_Bx, ix_Bx_0, ix_Bx_1, ix_Bx_2, ix_Bx_3, ix_Bx_m1, ix_Bx_m2, ix_Bx_m3, len_Bx, non_Bx, tp_Rm, sq_Rm, ix_Rm_0, ix_Rm_1, ix_Rm_2, ix_Rm_3, ix_Rm_4, ix_Rm_5, ix_Rm_m1, ix_Rm_m2, ix_Rm_m3, len_Rm, non_Rm, tp_Pd, sq_Pd, ix_Pd_0, ix_Pd_1, ix_Pd_2, ix_Pd_3, ix_Pd_4, ix_Pd_m1, ix_Pd_m2, ix_Pd_m3, len_Pd, non_Pd, reduceIte, if_true, if_false, ite_true, ite_false, if_false_right, if_false_left, decide_eq_true_eq, Bool.not_eq_true', Bool.not_true, Bool.not_false, decide_eq_false_iff_not, Bool.false_eq_true, Bool.true_and, Bool.and_true, Bool.false_and, Bool.and_false, Bool.or_true, Bool.or_false, Bool.false_or, Bool.true_or, reduceCtorEq, true_and, and_true, Int.reduceLT, Int.reduceLE, Int.reducePow, Int.reduceNeg, Int.reduceMul, Int.reduceAdd, Int.reduceSub, Int.reduceToNat, Int.reduceEq, na10, Nat.reducePow, Nat.reduceLT, Nat.reduceLeDiff, Nat.reduceAdd, Nat.reduceSub, true_or, or_true, and_self, decide_true, decide_false, Bool.decide_eq_true, Bool.and_self, Bool.not_not, eq_self, not_true_eq_false, not_false_eq_true, $xs,*]))
section
variable {P : Prg} [HasF P Gk37] {n i : Nat} {S : Sto} {w h d x : Int} {fs : List (Str × D)}
theorem is_whole_eq : callN P (n + 1) 0 [.int x] S = some (.bl true, S) := by
  refine eq_of_Ok (Ok_call (f := ⟨1, 1, b0⟩) hf0 rfl ?_)
  unfold b0
  simp_arith only []
theorem is_within_eq {a b : Int} : callN P (n + 2) 1 [.int x, .int a, .int b] S = some (.bl (decide (a ≤ x) && decide (x ≤ b)), S) := by
  refine eq_of_Ok (Ok_call (f := ⟨3, 3, b1⟩) hf1 rfl ?_)
  unfold b1
  simp_arith only [is_whole_eq]
theorem are_wholes_eq {xs : List Int} {k : Int} (hl : xs.length < 1000) : callN P (n + 2) 2 [.tup (xs.map D.int), .int k] S = some (.bl (decide ((xs.length : Int) = k)), S) := by
  refine eq_of_Ok (Ok_call (f := ⟨2, 3, b2⟩) hf2 rfl ?_)
  unfold b2
  simp_arith only [List.length_map]
  rw [lc_map (enc := D.int) (g := fun _ => .bl true) (by simp [sizeLine]; omega) fun x _ => by simp_arith only [is_whole_eq]]
  simp_arith only [f_allT]
  by_cases e : (xs.length : Int) = k <;> simp [e]
theorem aw4 {a b c e : Int} : callN P (n + 2) 2 [.tup [.int a, .int b, .int c, .int e], .int 4] S = some (.bl true, S) := are_wholes_eq (xs := [a, b, c, e]) (by simp)
theorem aw5 {a b c e f : Int} : callN P (n + 2) 2 [.tup [.int a, .int b, .int c, .int e, .int f], .int 5] S = some (.bl true, S) := are_wholes_eq (xs := [a, b, c, e, f]) (by simp)
theorem aw6 {a b c e f g : Int} : callN P (n + 2) 2 [.tup [.int a, .int b, .int c, .int e, .int f, .int g], .int 6] S = some (.bl true, S) := are_wholes_eq (xs := [a, b, c, e, f, g]) (by simp)
def boxB (w h a b c d : Int) : Bool := decide (0 ≤ a) && (decide (a ≤ c) && decide (c < w)) && (decide (0 ≤ b) && (decide (b ≤ d) && decide (d < h)))
theorem BxOk.b {a b c e : Int} (z : BxOk w h a b c e) : boxB w h a b c e = true := by
  obtain ⟨h1, h2, h3, h4, h5, h6⟩ := z
  unfold boxB
  simp only [Bool.and_eq_true, decide_eq_true_eq]
  omega
theorem is_box_eq {a b c e : Int} (hL : LdS S i w h d fs) : callN P (n + 3) 3 [.ref i, .tup [.int a, .int b, .int c, .int e]] S = some (.bl (boxB w h a b c e), S) := by
  refine eq_of_Ok (Ok_call (f := ⟨2, 6, b3⟩) hf3 rfl ?_)
  unfold b3
  simp_arith only [aw4, refI_is hL.at_, hL.wide, hL.high, boxB]
theorem is_room_eq {r : Rm} (hL : LdS S i w h d fs) (hr : RmOk w h d r) : callN P (n + 4) 4 [.ref i, r.t] S = some (.bl true, S) := by
  obtain ⟨hb, h1, h2, h3⟩ := hr
  refine eq_of_Ok (Ok_call (f := ⟨2, 5, b4⟩) hf4 rfl ?_)
  unfold b4
  unfold Rm.t
  simp_arith only [aw6, is_box_eq hL, hb.b, refI_is hL.at_, hL.day, h1, h2, h3]
theorem are_rooms_eq {rs : List Rm} (hL : LdS S i w h d fs) (hl : rs.length ≤ 8) (hr : ∀ r ∈ rs, RmOk w h d r) : callN P (n + 5) 5 [.ref i, .tup (rs.map Rm.t)] S = some (.bl true, S) := by
  refine eq_of_Ok (Ok_call (f := ⟨2, 3, b5⟩) hf5 rfl ?_)
  unfold b5
  simp_arith only [List.length_map, show (rs.length : Int) ≤ 8 by omega]
  rw [lc_map (enc := Rm.t) (g := fun _ => .bl true) (by simp [sizeLine]; omega) fun x hx => by simp_arith only [is_room_eq hL (hr x hx)]]
  simp_arith only [f_allT]
theorem are_heights_eq {hs : Option (List (List Int))} (hL : LdS S i w h d fs) (hw : w ≤ 12) (hh : h ≤ 12) (hr : ∀ r, hs = some r → (r.length : Int) = h ∧ ∀ l ∈ r, (l.length : Int) = w ∧ ∀ x ∈ l, 0 ≤ x ∧ x ≤ 9) :
    callN P (n + 3) 6 [.ref i, hsT hs] S = some (.bl true, S) := by
  refine eq_of_Ok (Ok_call (f := ⟨2, 4, b6⟩) hf6 rfl ?_)
  unfold b6
  cases hs with
  | none =>
    unfold hsT
    simp_arith only []
  | some r =>
    obtain ⟨e1, e2⟩ := hr r rfl
    unfold hsT
    simp_arith only [refI_is hL.at_, hL.high, List.length_map, e1]
    rw [lc_map (enc := rowT) (g := fun _ => .bl true) (by simp [sizeLine]; omega) fun x hx => by
      unfold rowT
      simp_arith only [refI_is hL.at_, hL.wide, are_wholes_eq (show x.length < 1000 by have := (e2 x hx).1; omega), (e2 x hx).1]]
    simp_arith only [f_allT]
    have gl : (r.flatMap fun l => l.map fun _ => D.bl true).length ≤ 144 := by
      have h1 := flat_len (xs := r) (g := fun l => l.map fun _ => D.bl true) (c := 12) fun x hx => by have := (e2 x hx).1; rw [List.length_map]; omega
      omega
    rw [la_map (enc := rowT) (g := fun l => l.map fun _ => .bl true) 144 (by simpa using gl) fun x hx acc hB => by
      unfold rowT
      simp_arith only []
      rw [List.length_map] at hB
      rw [lc_map (enc := D.int) (g := fun _ => .bl true) (by unfold sizeLine; omega) fun y hy => by
        simp_arith only [is_within_eq, ((e2 x hx).2 y hy).1, ((e2 x hx).2 y hy).2]]]
    simp only [flat_const (g := fun l : List Int => l)]
    simp_arith only [f_allT]
/-! ### pads -/
theorem do_share_eq {a b c e a' b' c' e' : Int} {r r' : List D} : callN P (n + 1) 7 [.tup (.int a :: .int b :: .int c :: .int e :: r), .tup (.int a' :: .int b' :: .int c' :: .int e' :: r')] S = some (.bl (share a b c e a' b' c' e'), S) := by
  refine eq_of_Ok (Ok_call (f := ⟨2, 2, b7⟩) hf7 rfl ?_)
  unfold b7
  simp_arith only [share]
theorem is_pad_eq {p : Pd} (hL : LdS S i w h d fs) (hr : PdOk w h p) : callN P (n + 4) 8 [.ref i, p.t] S = some (.bl true, S) := by
  obtain ⟨hb, h1, h2⟩ := hr
  refine eq_of_Ok (Ok_call (f := ⟨2, 2, b8⟩) hf8 rfl ?_)
  unfold b8
  unfold Pd.t
  simp_arith only [aw5, is_box_eq hL, hb.b, h1, h2]
theorem zip_mem {α : Type} {xs : List α} {p : α × Nat} (h : p ∈ xs.zipIdx) : xs[p.2]? = some p.1 := by
  obtain ⟨h1, h2⟩ := List.mem_zipIdx' h
  rw [h2]
  exact List.getElem?_eq_getElem h1
theorem apart_of {xs : List Pd} (h : xs.Pairwise fun p q => q.share p = false) {i : Nat} {p q : Pd} (hi : xs[i]? = some p) (hq : q ∈ xs.take i) : p.share q = false := by
  obtain ⟨j, hj, e⟩ := List.getElem_of_mem hq
  rw [List.length_take] at hj
  obtain ⟨h1, h2⟩ := List.getElem?_eq_some_iff.mp hi
  rw [List.getElem_take] at e
  have := List.pairwise_iff_getElem.mp h j i (by omega) h1 (by omega)
  rw [h2, e] at this
  exact this
theorem are_pads_eq {ps : List Pd} (hL : LdS S i w h d fs) (hl : ps.length ≤ 4) (hr : ∀ r ∈ ps, PdOk w h r) (hp : ps.Pairwise fun p q => q.share p = false) : callN P (n + 5) 9 [.ref i, .tup (ps.map Pd.t)] S = some (.bl true, S) := by
  refine eq_of_Ok (Ok_call (f := ⟨2, 5, b9⟩) hf9 rfl ?_)
  unfold b9
  simp_arith only [List.length_map, show ¬ (4 : Int) < ps.length by omega]
  rw [lc_map (enc := Pd.t) (g := fun _ => .bl true) (by simp [sizeLine]; omega) fun x hx => by simp_arith only [is_pad_eq hL (hr x hx)]]
  simp_arith only [f_allT, enum_map]
  have gl : (ps.zipIdx.flatMap fun p => (ps.take p.2).map fun _ => D.bl false).length ≤ 16 := by
    have h1 := flat_len (xs := ps.zipIdx) (g := fun p => (ps.take p.2).map fun _ => D.bl false) (c := 4) fun x hx => by rw [List.length_map, List.length_take]; omega
    rw [List.length_zipIdx] at h1
    omega
  rw [la_map (g := fun p => (ps.take p.2).map fun _ => .bl false) 16 (by simpa using gl) fun x hx acc hB => by
    simp_arith only [show (0 : Int) ≤ (x.2 : Int) by omega, Int.toNat_natCast, ← List.map_take]
    rw [List.length_map] at hB
    rw [lc_map (enc := Pd.t) (g := fun _ => .bl false) (by unfold sizeLine; omega) fun y hy => by
      have e := apart_of hp (zip_mem hx) hy
      unfold Pd.share at e
      unfold Pd.t
      simp_arith only [do_share_eq, e]]]
  simp_arith only [flat_const, f_anyF]
/-! ### a land is made -/
theorem need_ok {z : Str} : callN P (n + 1) 10 [.bl true, .str z] S = some (.non, S) := by
  refine eq_of_Ok (Ok_call (f := ⟨2, 2, b10⟩) hf10 rfl ?_)
  unfold b10
  simp_arith only []
theorem set_at {α : Type} {l : List α} {i : Nat} {x y : α} (h : l[i]? = some x) : (l.set i y)[i]? = some y := by
  rw [List.getElem?_set_self (List.getElem?_eq_some_iff.mp h).1]
theorem Land_init_eq {L : Land} (hS : S[i]? = some (.ins 0 [])) (ok : L.Ok) :
    callN P (n + 6) 11 [.ref i, .int L.w, .int L.h, .int L.day, hsT L.hs, .tup (L.bar.map Rm.t), .tup (L.peo.map Rm.t), .tup (L.pads.map Pd.t)] S = some (.non, S.set i (.ins 0 L.fs)) := by
  have a1 : (decide (1 ≤ L.w) && decide (L.w ≤ 12)) = true := by simp [ok.w0, ok.w1]
  have a2 : (decide (1 ≤ L.h) && decide (L.h ≤ 12)) = true := by simp [ok.h0, ok.h1]
  have a3 : (decide (1 ≤ L.day) && decide (L.day ≤ 24)) = true := by simp [ok.d0, ok.d1]
  refine eq_of_Ok (Ok_call (f := ⟨8, 8, b11⟩) hf11 rfl ?_)
  unfold b11
  simp_arith [is_within_eq, a1, a2, a3, need_ok, refI_is hS, putD, refI_is (set_at hS), List.set_set]
  have hL : LdS (S.set i (.ins 0 [("wide", .int L.w), ("high", .int L.h), ("day", .int L.day)])) i L.w L.h L.day [("wide", .int L.w), ("high", .int L.h), ("day", .int L.day)] := ⟨set_at hS, rfl, rfl, rfl⟩
  simp_arith [are_heights_eq hL ok.w1 ok.h1 ok.hs, need_ok, are_rooms_eq hL ok.bl ok.bar, are_rooms_eq hL ok.pl ok.peo, are_pads_eq hL ok.dl ok.pads ok.apart, refI_is (set_at hS), putD, List.set_set]
  rfl
end
end Wf
set_option Elab.async false
set_option linter.all false
set_option maxRecDepth 100000
namespace Wf
open PySem L2
local macro_rules | `(tactic| simp_arith only [$xs,*]) => `(tactic| simp +decide only [Ok_cons, Ok_nil, SK_nx, SK_rt, FK_rt, FK_nx, evS, evE, evP, evEs, evQs, evPs, evO, evC, evI, evMs, setAll, ownS, Ok_bind, Ok_map, Ok_some, Ok_none, Ok_ite, getS, peekS, setS, wipeS, orc, permA, keyOf, List.map_cons, List.map_nil, List.cons_append, List.nil_append, List.append_nil, List.replicate, List.length_cons, List.length_nil, List.getElem?_cons_zero, List.getElem?_cons_succ, List.set_cons_zero, List.set_cons_succ, Option.map_some, Option.bind_some, Option.map_none, Option.bind_none, asgT, asgTs, sq_t, sq_l, Ts.len, starD, List.take_succ_cons, List.take_zero, List.drop_succ_cons, List.drop_zero, List.take_nil, List.drop_nil, List.flatten_cons, List.flatten_nil, List.foldl_cons, List.foldl_nil, tp_n, tp_b, tp_i, tp_s, tp_t, tp_l, tp_d, tp_k, tp_c, tp_r0, tp_r1, ix_l, ix_t, ix_k, ix_d, ix_di, at0, at1, at2, at3, at4, at5, at6, at7, atm1, atm2, atm3, b_add, b_sub, b_mul, b_div, b_mod, b_pow, b_addT, b_addL, b_mulL, c_lt, c_le, c_gt, c_ge, c_eq, c_ne, c_eqs, c_nes, c_is, c_isnt, n_n, n_t, n_i, n_l, bl_b, int_i, f_len, f_lenT, f_min, f_max, f_min3, f_max3, f_abs, f_intB, f_int, f_tup, f_tupT, f_lst, f_lstT, f_sum, r_l0, r_l1, ints_map, c_neNil, c_eqNil, c_ne00, sz0, pt0, pt1, pt2, isi_i, isi_t, isi_n, isi_b, isi_l, isi_s, cutT, cutL, cut_to, cut_from, fold_and, fold_or, fold_ite, fold_iteI, fold_iteB, fold_flt, ite_bF, ite_bT, szle, szlt, sm62_i, tp_Bx, sq_Bx, ix_Bx_0, ix_Bx_1, ix_Bx_2, ix_Bx_3, ix_Bx_m1, ix_Bx_m2, ix_Bx_m3, len_Bx, non_Bx, tp_Rm, sq_Rm, ix_Rm_0, ix_Rm_1, ix_Rm_2, ix_Rm_3, ix_Rm_4, ix_Rm_5, ix_Rm_m1, ix_Rm_m2, ix_Rm_m3, len_Rm, non_Rm, tp_Pd, sq_Pd, ix_Pd_0, ix_Pd_1, ix_Pd_2, ix_Pd_3, ix_Pd_4, ix_Pd_m1, ix_Pd_m2, ix_Pd_m3, len_Pd, non_Pd, reduceIte, if_true, if_false, ite_true, ite_false, if_false_right, if_false_left, decide_eq_true_eq, Bool.not_eq_true', Bool.not_true, Bool.not_false, decide_eq_false_iff_not, Bool.false_eq_true, Bool.true_and, Bool.and_true, Bool.false_and, Bool.and_false, Bool.or_true, Bool.or_false, Bool.false_or, Bool.true_or, reduceCtorEq, true_and, and_true, Int.reduceLT, Int.reduceLE, Int.reducePow, Int.reduceNeg, Int.reduceMul, Int.reduceAdd, Int.reduceSub, Int.reduceToNat, Int.reduceEq, na10, Nat.reducePow, Nat.reduceLT, Nat.reduceLeDiff, Nat.reduceAdd, Nat.reduceSub, true_or, or_true, and_self, decide_true, decide_false, Bool.decide_eq_true, Bool.and_self, Bool.not_not, eq_self, not_true_eq_false, not_false_eq_true, $xs,*])
local macro_rules | `(tactic| simp_arith only [$xs,*] at $h:ident) => `(tactic| simp +decide only [Ok_cons, Ok_nil, SK_nx, SK_rt, FK_rt, FK_nx, evS, evE, evP, evEs, evQs, evPs, evO, evC, evI, evMs, setAll, ownS, Ok_bind, Ok_map, Ok_some, Ok_none, Ok_ite, getS, peekS, setS, wipeS, orc, permA, keyOf, List.map_cons, List.map_nil, List.cons_append, List.nil_append, List.append_nil, List.replicate, List.length_cons, List.length_nil, List.getElem?_cons_zero, List.getElem?_cons_succ, List.set_cons_zero, List.set_cons_succ, Option.map_some, Option.bind_some, Option.map_none, Option.bind_none, asgT, asgTs, sq_t, sq_l, Ts.len, starD, List.take_succ_cons, List.take_zero, List.drop_succ_cons, List.drop_zero, List.take_nil, List.drop_nil, List.flatten_cons, List.flatten_nil, List.foldl_cons, List.foldl_nil, tp_n, tp_b, tp_i, tp_s, tp_t, tp_l, tp_d, tp_k, tp_c, tp_r0, tp_r1, ix_l, ix_t, ix_k, ix_d, ix_di, at0, at1, at2, at3, at4, at5, at6, at7, atm1, atm2, atm3, b_add, b_sub, b_mul, b_div, b_mod, b_pow, b_addT, b_addL, b_mulL, c_lt, c_le, c_gt, c_ge, c_eq, c_ne, c_eqs, c_nes, c_is, c_isnt, n_n, n_t, n_i, n_l, bl_b, int_i, f_len, f_lenT, f_min, f_max, f_min3, f_max3, f_abs, f_intB, f_int, f_tup, f_tupT, f_lst, f_lstT, f_sum, r_l0, r_l1, ints_map, c_neNil, c_eqNil, c_ne00, sz0, pt0, pt1, pt2, isi_i, isi_t, isi_n, isi_b, isi_l, isi_s, cutT, cutL, cut_to, cut_from, fold_and, fold_or, fold_ite, fold_iteI, fold_iteB, fold_flt, ite_bF, ite_bT, szle, szlt, sm62_i, tp_Bx, sq_Bx, ix_Bx_0, ix_Bx_1, ix_Bx_2, ix_Bx_3, ix_Bx_m1, ix_Bx_m2, ix_Bx_m3, len_Bx, non_Bx, tp_Rm, sq_Rm, ix_Rm_0, ix_Rm_1, ix_Rm_2, ix_Rm_3, ix_Rm_4, ix_Rm_5, ix_Rm_m1, ix_Rm_m2, ix_Rm_m3, len_Rm, non_Rm, tp_Pd, sq_Pd, ix_Pd_0, ix_Pd_1, ix_Pd_2, ix_Pd_3, ix_Pd_4, ix_Pd_m1, ix_Pd_m2, ix_Pd_m3, len_Pd, non_Pd, reduceIte, if_true, if_false, ite_true, ite_false, if_false_right, if_false_left, decide_eq_true_eq, Bool.not_eq_true', Bool.not_true, Bool.not_false, decide_eq_false_iff_not, Bool.false_eq_true, Bool.true_and, Bool.and_true, Bool.false_and, Bool.and_false, Bool.or_true, Bool.or_false, Bool.false_or, Bool.true_or, reduceCtorEq, true_and, and_true, Int.reduceLT, Int.reduceLE, Int.reducePow, Int.reduceNeg, Int.reduceMul, Int.reduceAdd, Int.reduceSub, Int.reduceToNat, Int.reduceEq, na10, Nat.reducePow, Nat.reduceLT, Nat.reduceLeDiff, Nat.reduceAdd, Nat.reduceSub, true_or, or_true, and_self, decide_true, decide_false, Bool.decide_eq_true, Bool.and_self, Bool.not_not, eq_self, not_true_eq_false, not_false_eq_true, $xs,*] at $h:ident)
local macro_rules | `(tactic| simp_arith [$xs,*]) => `(tactic| repeat (first | with_reducible (refine SKn ?_) | with_reducible (refine SKr ?_) | with_reducible (refine Okc ?_) | with_reducible (refine Okn ?_) | with_reducible (refine FRn ?_) | with_reducible (refine FRr ?_) | with_reducible (refine fr_cons ?_) | with_reducible (refine fr_nil ?_) | simp +decide only [FK_rt, FK_nx, evS, evE, evP, evEs, evQs, evPs, evO, evC, evI, evMs, setAll, ownS, Ok_bind, Ok_map, Ok_some, Ok_none, Ok_ite, getS, peekS, setS, wipeS, orc, permA, keyOf, List.map_cons, List.map_nil, List.cons_append, List.nil_append, List.append_nil, List.replicate, List.length_cons, List.length_nil, List.getElem?_cons_zero, List.getElem?_cons_succ, List.set_cons_zero, List.set_cons_succ, Option.map_some, Option.bind_some, Option.map_none, Option.bind_none, asgT, asgTs, sq_t, sq_l, Ts.len, starD, List.take_succ_cons, List.take_zero, List.drop_succ_cons, List.drop_zero, List.take_nil, List.drop_nil, List.flatten_cons, List.flatten_nil, List.foldl_cons, List.foldl_nil, tp_n, tp_b, tp_i, tp_s, tp_t, tp_l, tp_d, tp_k, tp_c, tp_r0, tp_r1, ix_l, ix_t, ix_k, ix_d, ix_di, at0, at1, at2, at3, at4, at5, at6, at7, atm1, atm2, atm3, b_add, b_sub, b_mul, b_div, b_mod, b_pow, b_addT, b_addL, b_mulL, c_lt, c_le, c_gt, c_ge, c_eq, c_ne, c_eqs, c_nes, c_is, c_isnt, n_n, n_t, n_i, n_l, bl_b, int_i, f_len, f_lenT, f_min, f_max, f_min3, f_max3, f_abs, f_intB, f_int, f_tup, f_tupT, f_lst, f_lstT, f_sum, r_l0, r_l1, ints_map, c_neNil, c_eqNil, c_ne00, sz0, pt0, pt1, pt2, isi_i, isi_t, isi_n, isi_b, isi_l, isi_s, cutT, cutL, cut_to, cut_from, fold_and, fold_or, fold_ite, fold_iteI, fold_iteB, fold_flt, ite_bF, ite_bT, szle, szlt, sm62_i, tp_Bx, sq_Bx, ix_Bx_0, ix_Bx_1, ix_Bx_2, ix_Bx_3, ix_Bx_m1, ix_Bx_m2, ix_Bx_m3, len_Bx, non_Bx, tp_Rm, sq_Rm, ix_Rm_0, ix_Rm_1, ix_Rm_2, ix_Rm_3, ix_Rm_4, ix_Rm_5, ix_Rm_m1, ix_Rm_m2, ix_Rm_m3, len_Rm, non_Rm, tp_Pd, sq_Pd, ix_Pd_0, ix_Pd_1, ix_Pd_2, ix_Pd_3, ix_Pd_4, ix_Pd_m1, ix_Pd_m2, ix_Pd_m3, len_Pd, non_Pd, reduceIte, if_true, if_false, ite_true, ite_false, if_false_right, if_false_left, decide_eq_true_eq, Bool.not_eq_true', Bool.not_true, Bool.not_false, decide_eq_false_iff_not, Bool.false_eq_true, Bool.true_and, Bool.and_true, Bool.false_and, Bool.and_false, Bool.or_true, Bool.or_false, Bool.false_or, Bool.true_or, reduceCtorEq, true_and, and_true, Int.reduceLT, Int.reduceLE, Int.reducePow, Int.reduceNeg, Int.reduceMul, Int.reduceAdd, Int.reduceSub, Int.reduceToNat, Int.reduceEq, na10, Nat.reducePow, Nat.reduceLT, Nat.reduceLeDiff, Nat.reduceAdd, Nat.reduceSub, true_or, or_true, and_self, decide_true, decide_false, Bool.decide_eq_true, Bool.and_self, Bool.not_not, eq_self, not_true_eq_false, not_false_eq_true, $xs,*]))
/-! ### the deck of draws -/
/-- the deck lies at 0 and 1 -/
def Dk (R S : Sto) : Prop := ∃ (cs : List Int) (t c : Int), cs.length ≤ 63 ∧ S = .lst (cs.map D.int) :: .lst [.ref 0, .int t, .int c] :: R
theorem Dk.at2 {R S : Sto} {i : Nat} (h : Dk R S) : S[i + 2]? = R[i]? := by
  obtain ⟨cs, t, c, _, rfl⟩ := h
  rfl
theorem Dk.len {R S : Sto} (h : Dk R S) : S.length = R.length + 2 := by
  obtain ⟨cs, t, c, _, rfl⟩ := h
  rfl
theorem Dk.push {R S : Sto} {o : Ob} (h : Dk R S) : Dk (R ++ [o]) (S ++ [o]) := by
  obtain ⟨cs, t, c, hl, rfl⟩ := h
  exact ⟨cs, t, c, hl, rfl⟩
theorem Dk.set {R S : Sto} {o : Ob} {i : Nat} (h : Dk R S) : Dk (R.set i o) (S.set (i + 2) o) := by
  obtain ⟨cs, t, c, hl, rfl⟩ := h
  exact ⟨cs, t, c, hl, rfl⟩
theorem Dk.land {R S : Sto} {i : Nat} {L : Land} (h : Dk R S) (hL : R[i]? = some (.ins 0 L.fs)) : LdAt S (i + 2) L := by
  unfold LdAt
  rw [h.at2]
  exact hL
theorem mix_ok {m a : Int} (h0 : 0 < m) : 0 ≤ a % m ∧ a % m < m := ⟨Int.emod_nonneg _ (by omega), Int.emod_lt_of_pos _ h0⟩
theorem in64 {a m : Int} (h0 : 0 < m) (h1 : m < 2 ^ 63) : -(2 ^ 64) < a % m ∧ a % m < 2 ^ 64 := by
  have := mix_ok (a := a) h0
  omega
section
variable {P : Prg} [HasF P Gk37] {n i j : Nat} {R S : Sto} {Q : D × Sto → Prop}
theorem draw_ok {m : Int} (h : Dk R S) (h0 : 0 < m) (h1 : m < 1073741824) (q : ∀ r S', 0 ≤ r → r < m → Dk R S' → Q (.int r, S')) : Ok (callN P (n + 1) 16 [.ref 1, .int m] S) Q := by
  obtain ⟨cs, t, c, hl, rfl⟩ := h
  refine Ok_call (f := ⟨2, 4, b16⟩) hf16 rfl ?_
  unfold b16
  rcases List.eq_nil_or_concat cs with rfl | ⟨r, x, rfl⟩
  · simp_arith only []
    refine ⟨.inl (in64 (by decide) (by decide)), .inl (in64 (by decide) (by decide)), h0, ?_⟩
    exact q _ _ (mix_ok h0).1 (mix_ok h0).2 ⟨[], _, _, by simp, rfl⟩
  · rw [List.concat_eq_append] at *
    have hl2 : r.length ≤ 62 := by rw [List.length_append] at hl; simp at hl; omega
    simp_arith only [lastM', dropM, apM, empM, List.length_map]
    split
    · refine ⟨⟨h0, h1⟩, by unfold sizeLine; omega, h0, q _ _ (mix_ok h0).1 (mix_ok h0).2 ⟨r ++ [x / m], _, _, by rw [List.length_append]; simp; omega, rfl⟩⟩
    · refine ⟨.inl (in64 (by decide) (by decide)), .inl (in64 (by decide) (by decide)), h0, ?_⟩
      exact q _ _ (mix_ok h0).1 (mix_ok h0).2 ⟨r, _, _, by omega, rfl⟩
/-- one of a list -/
theorem pick_ok {xs : List D} (h : Dk R S) (h0 : 0 < xs.length) (h1 : xs.length < 1073741824) (q : ∀ d S', d ∈ xs → Dk R S' → Q (d, S')) : Ok (callN P (n + 2) 17 [.ref 1, .lst xs] S) Q := by
  refine Ok_call (f := ⟨2, 2, b17⟩) hf17 rfl ?_
  unfold b17
  simp_arith only []
  refine draw_ok h (by omega) (by omega) fun r S' r0 r1 h' => ?_
  simp_arith only []
  exact Ok_at r0 r1 fun a _ m => q a S' m h'
/-- one of some numbers -/
theorem pickI {ns : List Int} {a b : Int} (hk : Dk R S) (h0 : 0 < ns.length) (h1 : ns.length < 1073741824) (hb : ∀ x ∈ ns, a ≤ x ∧ x ≤ b) (q : ∀ r S', a ≤ r → r ≤ b → Dk R S' → Q (.int r, S')) : Ok (callN P (n + 2) 17 [.ref 1, .lst (ns.map D.int)] S) Q := by
  refine pick_ok hk (by rw [List.length_map]; exact h0) (by rw [List.length_map]; exact h1) fun x S' m h' => ?_
  obtain ⟨r, hr, rfl⟩ := List.mem_map.mp m
  exact q r S' (hb r hr).1 (hb r hr).2 h'
theorem bounds_ok {a b : Int} (h : Dk R S) (h0 : a ≤ b) (h1 : b - a < 1073741823) (q : ∀ r S', a ≤ r → r ≤ b → Dk R S' → Q (.int r, S')) : Ok (callN P (n + 2) 18 [.ref 1, .int a, .int b] S) Q := by
  refine Ok_call (f := ⟨3, 3, b18⟩) hf18 rfl ?_
  unfold b18
  simp_arith only []
  refine draw_ok h (by omega) (by omega) fun r S' r0 r1 h' => ?_
  simp_arith only []
  refine draw_ok h' (by omega) (by omega) fun r2 S2 g0 g1 h2 => ?_
  simp_arith only []
  refine Ok_at g0 g1 fun x _ m => ?_
  simp only [List.mem_cons, List.not_mem_nil, or_false] at m
  rcases m with rfl | rfl | rfl
  · exact q _ _ (by omega) (by omega) h2
  · exact q _ _ (by omega) (by omega) h2
  · exact q _ _ (by omega) (by omega) h2
/-! ### the deck itself -/
theorem cut_s {ns : List Int} {a b : Option Int} : semCut (.scr ns) a b = some (.lst (cutD (ns.map .int) a b)) := rfl
theorem deck_ok {ns : List Int} (q : ∀ S', Dk [] S' → Q (.ref 1, S')) : Ok (callN P (n + 1) 15 [.scr ns] []) Q := by
  refine Ok_call (f := ⟨1, 3, b15⟩) hf15 rfl ?_
  unfold b15
  simp_arith only [cut_s, ← List.map_take]
  generalize hm : ns.take 63 = ms
  have hl : ms.length ≤ 63 := by rw [← hm, List.length_take]; omega
  rw [← List.map_reverse]
  rw [lc_map (enc := D.int) (g := fun x => D.int (x % 1000003)) (by simp [sizeLine]; omega) fun x _ => by simp_arith only []]
  have e : List.map (fun x : Int => D.int (x % 1000003)) ms = List.map D.int (ms.map (· % 1000003)) := by simp
  simp_arith only [e, List.length_map]
  refine q _ ⟨ms.reverse, _, _, by rw [List.length_reverse]; exact hl, rfl⟩
end
end Wf
-- ENC2
set_option Elab.async false
set_option linter.all false
set_option maxRecDepth 100000
namespace Wf
open PySem L2
local macro_rules | `(tactic| simp_arith only [$xs,*]) => `(tactic| simp +decide only [Ok_cons, Ok_nil, SK_nx, SK_rt, FK_rt, FK_nx, evS, evE, evP, evEs, evQs, evPs, evO, evC, evI, evMs, setAll, ownS, Ok_bind, Ok_map, Ok_some, Ok_none, Ok_ite, getS, peekS, setS, wipeS, orc, permA, keyOf, List.map_cons, List.map_nil, List.cons_append, List.nil_append, List.append_nil, List.replicate, List.length_cons, List.length_nil, List.getElem?_cons_zero, List.getElem?_cons_succ, List.set_cons_zero, List.set_cons_succ, Option.map_some, Option.bind_some, Option.map_none, Option.bind_none, asgT, asgTs, sq_t, sq_l, Ts.len, starD, List.take_succ_cons, List.take_zero, List.drop_succ_cons, List.drop_zero, List.take_nil, List.drop_nil, List.flatten_cons, List.flatten_nil, List.foldl_cons, List.foldl_nil, tp_n, tp_b, tp_i, tp_s, tp_t, tp_l, tp_d, tp_k, tp_c, tp_r0, tp_r1, ix_l, ix_t, ix_k, ix_d, ix_di, at0, at1, at2, at3, at4, at5, at6, at7, atm1, atm2, atm3, b_add, b_sub, b_mul, b_div, b_mod, b_pow, b_addT, b_addL, b_mulL, c_lt, c_le, c_gt, c_ge, c_eq, c_ne, c_eqs, c_nes, c_is, c_isnt, n_n, n_t, n_i, n_l, bl_b, int_i, f_len, f_lenT, f_min, f_max, f_min3, f_max3, f_abs, f_intB, f_int, f_tup, f_tupT, f_lst, f_lstT, f_sum, r_l0, r_l1, ints_map, c_neNil, c_eqNil, c_ne00, sz0, pt0, pt1, pt2, isi_i, isi_t, isi_n, isi_b, isi_l, isi_s, cutT, cutL, cut_to, cut_from, fold_and, fold_or, fold_ite, fold_iteI, fold_iteB, fold_flt, ite_bF, ite_bT, szle, szlt, sm62_i, tp_Bx, sq_Bx, ix_Bx_0, ix_Bx_1, ix_Bx_2, ix_Bx_3, ix_Bx_m1, ix_Bx_m2, ix_Bx_m3, len_Bx, non_Bx, tp_Rm, sq_Rm, ix_Rm_0, ix_Rm_1, ix_Rm_2, ix_Rm_3, ix_Rm_4, ix_Rm_5, ix_Rm_m1, ix_Rm_m2, ix_Rm_m3, len_Rm, non_Rm, tp_Pd, sq_Pd, ix_Pd_0, ix_Pd_1, ix_Pd_2, ix_Pd_3, ix_Pd_4, ix_Pd_m1, ix_Pd_m2, ix_Pd_m3, len_Pd, non_Pd, tp_Fy, sq_Fy, ix_Fy_0, ix_Fy_1, ix_Fy_2, ix_Fy_3, ix_Fy_m1, ix_Fy_m2, ix_Fy_m3, len_Fy, non_Fy, tp_St, sq_St, ix_St_0, ix_St_1, ix_St_2, ix_St_3, ix_St_m1, ix_St_m2, ix_St_m3, len_St, non_St, tp_Flt, sq_Flt, ix_Flt_0, ix_Flt_1, ix_Flt_2, ix_Flt_3, ix_Flt_4, ix_Flt_m1, ix_Flt_m2, ix_Flt_m3, len_Flt, non_Flt, tp_Ld, ix_Ld_w, ix_Ld_h, ix_Ld_d, ix_Ld_hs, ix_Ld_bar, ix_Ld_peo, ix_Ld_pads, tp_hs, tp_Tk, tp_Row, tp_way, sq_way, len_way, non_Row, reduceIte, if_true, if_false, ite_true, ite_false, if_false_right, if_false_left, decide_eq_true_eq, Bool.not_eq_true', Bool.not_true, Bool.not_false, decide_eq_false_iff_not, Bool.false_eq_true, Bool.true_and, Bool.and_true, Bool.false_and, Bool.and_false, Bool.or_true, Bool.or_false, Bool.false_or, Bool.true_or, reduceCtorEq, true_and, and_true, Int.reduceLT, Int.reduceLE, Int.reducePow, Int.reduceNeg, Int.reduceMul, Int.reduceAdd, Int.reduceSub, Int.reduceToNat, Int.reduceEq, na10, Nat.reducePow, Nat.reduceLT, Nat.reduceLeDiff, Nat.reduceAdd, Nat.reduceSub, true_or, or_true, and_self, decide_true, decide_false, Bool.decide_eq_true, Bool.and_self, Bool.not_not, eq_self, not_true_eq_false, not_false_eq_true, $xs,*])
local macro_rules | `(tactic| simp_arith only [$xs,*] at $h:ident) => `(tactic| simp +decide only [Ok_cons, Ok_nil, SK_nx, SK_rt, FK_rt, FK_nx, evS, evE, evP, evEs, evQs, evPs, evO, evC, evI, evMs, setAll, ownS, Ok_bind, Ok_map, Ok_some, Ok_none, Ok_ite, getS, peekS, setS, wipeS, orc, permA, keyOf, List.map_cons, List.map_nil, List.cons_append, List.nil_append, List.append_nil, List.replicate, List.length_cons, List.length_nil, List.getElem?_cons_zero, List.getElem?_cons_succ, List.set_cons_zero, List.set_cons_succ, Option.map_some, Option.bind_some, Option.map_none, Option.bind_none, asgT, asgTs, sq_t, sq_l, Ts.len, starD, List.take_succ_cons, List.take_zero, List.drop_succ_cons, List.drop_zero, List.take_nil, List.drop_nil, List.flatten_cons, List.flatten_nil, List.foldl_cons, List.foldl_nil, tp_n, tp_b, tp_i, tp_s, tp_t, tp_l, tp_d, tp_k, tp_c, tp_r0, tp_r1, ix_l, ix_t, ix_k, ix_d, ix_di, at0, at1, at2, at3, at4, at5, at6, at7, atm1, atm2, atm3, b_add, b_sub, b_mul, b_div, b_mod, b_pow, b_addT, b_addL, b_mulL, c_lt, c_le, c_gt, c_ge, c_eq, c_ne, c_eqs, c_nes, c_is, c_isnt, n_n, n_t, n_i, n_l, bl_b, int_i, f_len, f_lenT, f_min, f_max, f_min3, f_max3, f_abs, f_intB, f_int, f_tup, f_tupT, f_lst, f_lstT, f_sum, r_l0, r_l1, ints_map, c_neNil, c_eqNil, c_ne00, sz0, pt0, pt1, pt2, isi_i, isi_t, isi_n, isi_b, isi_l, isi_s, cutT, cutL, cut_to, cut_from, fold_and, fold_or, fold_ite, fold_iteI, fold_iteB, fold_flt, ite_bF, ite_bT, szle, szlt, sm62_i, tp_Bx, sq_Bx, ix_Bx_0, ix_Bx_1, ix_Bx_2, ix_Bx_3, ix_Bx_m1, ix_Bx_m2, ix_Bx_m3, len_Bx, non_Bx, tp_Rm, sq_Rm, ix_Rm_0, ix_Rm_1, ix_Rm_2, ix_Rm_3, ix_Rm_4, ix_Rm_5, ix_Rm_m1, ix_Rm_m2, ix_Rm_m3, len_Rm, non_Rm, tp_Pd, sq_Pd, ix_Pd_0, ix_Pd_1, ix_Pd_2, ix_Pd_3, ix_Pd_4, ix_Pd_m1, ix_Pd_m2, ix_Pd_m3, len_Pd, non_Pd, tp_Fy, sq_Fy, ix_Fy_0, ix_Fy_1, ix_Fy_2, ix_Fy_3, ix_Fy_m1, ix_Fy_m2, ix_Fy_m3, len_Fy, non_Fy, tp_St, sq_St, ix_St_0, ix_St_1, ix_St_2, ix_St_3, ix_St_m1, ix_St_m2, ix_St_m3, len_St, non_St, tp_Flt, sq_Flt, ix_Flt_0, ix_Flt_1, ix_Flt_2, ix_Flt_3, ix_Flt_4, ix_Flt_m1, ix_Flt_m2, ix_Flt_m3, len_Flt, non_Flt, tp_Ld, ix_Ld_w, ix_Ld_h, ix_Ld_d, ix_Ld_hs, ix_Ld_bar, ix_Ld_peo, ix_Ld_pads, tp_hs, tp_Tk, tp_Row, tp_way, sq_way, len_way, non_Row, reduceIte, if_true, if_false, ite_true, ite_false, if_false_right, if_false_left, decide_eq_true_eq, Bool.not_eq_true', Bool.not_true, Bool.not_false, decide_eq_false_iff_not, Bool.false_eq_true, Bool.true_and, Bool.and_true, Bool.false_and, Bool.and_false, Bool.or_true, Bool.or_false, Bool.false_or, Bool.true_or, reduceCtorEq, true_and, and_true, Int.reduceLT, Int.reduceLE, Int.reducePow, Int.reduceNeg, Int.reduceMul, Int.reduceAdd, Int.reduceSub, Int.reduceToNat, Int.reduceEq, na10, Nat.reducePow, Nat.reduceLT, Nat.reduceLeDiff, Nat.reduceAdd, Nat.reduceSub, true_or, or_true, and_self, decide_true, decide_false, Bool.decide_eq_true, Bool.and_self, Bool.not_not, eq_self, not_true_eq_false, not_false_eq_true, $xs,*] at $h:ident)
local macro_rules | `(tactic| simp_arith [$xs,*]) => `(tactic| repeat (first | with_reducible (refine SKn ?_) | with_reducible (refine SKr ?_) | with_reducible (refine Okc ?_) | with_reducible (refine Okn ?_) | with_reducible (refine FRn ?_) | with_reducible (refine FRr ?_) | with_reducible (refine fr_cons ?_) | with_reducible (refine fr_nil ?_) | simp +decide only [FK_rt, FK_nx, evS, evE, evP, evEs, evQs, evPs, evO, evC, evI, evMs, setAll, ownS, Ok_bind, Ok_map, Ok_some, Ok_none, Ok_ite, getS, peekS, setS, wipeS, orc, permA, keyOf, List.map_cons, List.map_nil, List.cons_append, List.nil_append, List.append_nil, List.replicate, List.length_cons, List.length_nil, List.getElem?_cons_zero, List.getElem?_cons_succ, List.set_cons_zero, List.set_cons_succ, Option.map_some, Option.bind_some, Option.map_none, Option.bind_none, asgT, asgTs, sq_t, sq_l, Ts.len, starD, List.take_succ_cons, List.take_zero, List.drop_succ_cons, List.drop_zero, List.take_nil, List.drop_nil, List.flatten_cons, List.flatten_nil, List.foldl_cons, List.foldl_nil, tp_n, tp_b, tp_i, tp_s, tp_t, tp_l, tp_d, tp_k, tp_c, tp_r0, tp_r1, ix_l, ix_t, ix_k, ix_d, ix_di, at0, at1, at2, at3, at4, at5, at6, at7, atm1, atm2, atm3, b_add, b_sub, b_mul, b_div, b_mod, b_pow, b_addT, b_addL, b_mulL, c_lt, c_le, c_gt, c_ge, c_eq, c_ne, c_eqs, c_nes, c_is, c_isnt, n_n, n_t, n_i, n_l, bl_b, int_i, f_len, f_lenT, f_min, f_max, f_min3, f_max3, f_abs, f_intB, f_int, f_tup, f_tupT, f_lst, f_lstT, f_sum, r_l0, r_l1, ints_map, c_neNil, c_eqNil, c_ne00, sz0, pt0, pt1, pt2, isi_i, isi_t, isi_n, isi_b, isi_l, isi_s, cutT, cutL, cut_to, cut_from, fold_and, fold_or, fold_ite, fold_iteI, fold_iteB, fold_flt, ite_bF, ite_bT, szle, szlt, sm62_i, tp_Bx, sq_Bx, ix_Bx_0, ix_Bx_1, ix_Bx_2, ix_Bx_3, ix_Bx_m1, ix_Bx_m2, ix_Bx_m3, len_Bx, non_Bx, tp_Rm, sq_Rm, ix_Rm_0, ix_Rm_1, ix_Rm_2, ix_Rm_3, ix_Rm_4, ix_Rm_5, ix_Rm_m1, ix_Rm_m2, ix_Rm_m3, len_Rm, non_Rm, tp_Pd, sq_Pd, ix_Pd_0, ix_Pd_1, ix_Pd_2, ix_Pd_3, ix_Pd_4, ix_Pd_m1, ix_Pd_m2, ix_Pd_m3, len_Pd, non_Pd, tp_Fy, sq_Fy, ix_Fy_0, ix_Fy_1, ix_Fy_2, ix_Fy_3, ix_Fy_m1, ix_Fy_m2, ix_Fy_m3, len_Fy, non_Fy, tp_St, sq_St, ix_St_0, ix_St_1, ix_St_2, ix_St_3, ix_St_m1, ix_St_m2, ix_St_m3, len_St, non_St, tp_Flt, sq_Flt, ix_Flt_0, ix_Flt_1, ix_Flt_2, ix_Flt_3, ix_Flt_4, ix_Flt_m1, ix_Flt_m2, ix_Flt_m3, len_Flt, non_Flt, tp_Ld, ix_Ld_w, ix_Ld_h, ix_Ld_d, ix_Ld_hs, ix_Ld_bar, ix_Ld_peo, ix_Ld_pads, tp_hs, tp_Tk, tp_Row, tp_way, sq_way, len_way, non_Row, reduceIte, if_true, if_false, ite_true, ite_false, if_false_right, if_false_left, decide_eq_true_eq, Bool.not_eq_true', Bool.not_true, Bool.not_false, decide_eq_false_iff_not, Bool.false_eq_true, Bool.true_and, Bool.and_true, Bool.false_and, Bool.and_false, Bool.or_true, Bool.or_false, Bool.false_or, Bool.true_or, reduceCtorEq, true_and, and_true, Int.reduceLT, Int.reduceLE, Int.reducePow, Int.reduceNeg, Int.reduceMul, Int.reduceAdd, Int.reduceSub, Int.reduceToNat, Int.reduceEq, na10, Nat.reducePow, Nat.reduceLT, Nat.reduceLeDiff, Nat.reduceAdd, Nat.reduceSub, true_or, or_true, and_self, decide_true, decide_false, Bool.decide_eq_true, Bool.and_self, Bool.not_not, eq_self, not_true_eq_false, not_false_eq_true, $xs,*]))
/-! ### what the laws draw: boxes, rooms, lands, tasks, ways, flights -/
section
variable {P : Prg} [HasF P Gk37] [HasF P Gk07] {n i : Nat} {R S : Sto} {w h d x m : Int} {Q : D × Sto → Prop} {L : Land}
theorem mx {a b : Int} : (if b > a then b else a) = max a b := by rw [Int.max_def]; split <;> split <;> omega
theorem mn {a b : Int} : (if b < a then b else a) = min a b := by rw [Int.min_def]; split <;> split <;> omega
theorem box_ok (hk : Dk R S) (w0 : 1 ≤ w) (w1 : w ≤ 12) (h0 : 1 ≤ h) (h1 : h ≤ 12) (q : ∀ b S', BxOk' w h b → Dk R S' → Q (Bx.t b, S')) : Ok (callN P (n + 2) 32 [.ref 1, .int w, .int h] S) Q := by
  refine Ok_call (f := ⟨3, 5, b32⟩) hf32 rfl ?_
  unfold b32
  simp_arith []
  refine draw_ok hk (by omega) (by omega) fun a S1 a0 a1 k1 => ?_
  simp_arith []
  refine draw_ok k1 (by omega) (by omega) fun b S2 b0 b1 k2 => ?_
  simp_arith []
  refine draw_ok k2 (by omega) (by omega) fun c S3 c0 c1 k3 => ?_
  simp_arith []
  refine draw_ok k3 (by omega) (by omega) fun e S4 e0 e1 k4 => ?_
  simp_arith []
  refine q ⟨a, b, if a + c < w - 1 then a + c else w - 1, if b + e < h - 1 then b + e else h - 1⟩ S4 ?_ k4
  unfold BxOk'
  simp only [mn]
  exact ⟨by omega, by omega, by omega, by omega, by omega, by omega⟩
theorem room_ok (hk : Dk R S) (w0 : 1 ≤ w) (w1 : w ≤ 12) (h0 : 1 ≤ h) (h1 : h ≤ 12) (d0 : 1 ≤ d) (d1 : d ≤ 24) (q : ∀ r S', RmOk w h d r → Dk R S' → Q (Rm.t r, S')) : Ok (callN P (n + 3) 33 [.ref 1, .int w, .int h, .int d] S) Q := by
  refine Ok_call (f := ⟨4, 5, b33⟩) hf33 rfl ?_
  unfold b33
  simp_arith []
  refine draw_ok hk (by omega) (by omega) fun f S1 f0 f1 k1 => ?_
  simp_arith []
  refine box_ok k1 w0 w1 h0 h1 fun b S2 hb k2 => ?_
  unfold Bx.t
  simp_arith []
  refine draw_ok k2 (by omega) (by omega) fun e S3 e0 e1 k3 => ?_
  simp_arith []
  refine q ⟨b.a, b.b, b.c, b.d, f, if f + e < d then f + e else d⟩ S3 ⟨hb, by omega, ?_, ?_⟩ k3
  all_goals simp only [mn]
  all_goals omega
theorem sizes_ok (hk : Dk R S) (q : ∀ w h d S', 1 ≤ w → w ≤ 12 → 1 ≤ h → h ≤ 12 → 2 ≤ d → d ≤ 6 → Dk R S' → Q (.tup [.int w, .int h, .int d], S')) : Ok (callN P (n + 2) 34 [.ref 1] S) Q := by
  refine Ok_call (f := ⟨1, 2, b34⟩) hf34 rfl ?_
  unfold b34
  simp_arith []
  refine draw_ok hk (by omega) (by omega) fun v S1 v0 v1 k1 => ?_
  simp_arith []
  by_cases c1 : v = 5
  · simp_arith [c1]
    refine draw_ok k1 (by omega) (by omega) fun a S2 a0 a1 k2 => ?_
    simp_arith []
    refine draw_ok k2 (by omega) (by omega) fun b S3 b0 b1 k3 => ?_
    simp_arith []
    refine draw_ok k3 (by omega) (by omega) fun c S4 c0 c1 k4 => ?_
    simp_arith []
    exact q _ _ _ S4 (by omega) (by omega) (by omega) (by omega) (by omega) (by omega) k4
  · by_cases c2 : v = 6
    · simp_arith [c2]
      refine draw_ok k1 (by omega) (by omega) fun a S2 a0 a1 k2 => ?_
      simp_arith []
      refine draw_ok k2 (by omega) (by omega) fun b S3 b0 b1 k3 => ?_
      simp_arith []
      refine draw_ok k3 (by omega) (by omega) fun c S4 c0 c1 k4 => ?_
      simp_arith []
      exact q _ _ _ S4 (by omega) (by omega) (by omega) (by omega) (by omega) (by omega) k4
    · simp_arith [c1, c2]
      refine draw_ok k1 (by omega) (by omega) fun a S2 a0 a1 k2 => ?_
      simp_arith []
      refine draw_ok k2 (by omega) (by omega) fun b S3 b0 b1 k3 => ?_
      simp_arith []
      refine draw_ok k3 (by omega) (by omega) fun c S4 c0 c1 k4 => ?_
      simp_arith []
      exact q _ _ _ S4 (by omega) (by omega) (by omega) (by omega) (by omega) (by omega) k4
def HsOk (w h : Int) (o : Option (List (List Int))) : Prop := ∀ r, o = some r → (r.length : Int) = h ∧ ∀ l ∈ r, (l.length : Int) = w ∧ ∀ x ∈ l, 0 ≤ x ∧ x ≤ 9
theorem heights_ok (hk : Dk R S) (w0 : 1 ≤ w) (w1 : w ≤ 12) (h0 : 1 ≤ h) (h1 : h ≤ 12) (q : ∀ o S', HsOk w h o → Dk R S' → Q (hsT o, S')) : Ok (callN P (n + 2) 35 [.ref 1, .int w, .int h] S) Q := by
  refine Ok_call (f := ⟨3, 7, b35⟩) hf35 rfl ?_
  unfold b35
  simp_arith []
  refine draw_ok hk (by omega) (by omega) fun v S1 v0 v1 k1 => ?_
  simp_arith []
  by_cases c1 : v = 0
  · simp_arith [c1]
    exact q none S1 (fun r e => by cases e) k1
  · simp_arith [c1, rangeD_map, sm62_i (show -1000000 ≤ h by omega) (by omega)]
    refine Ok_fr0 (enc := D.int) (fun pre env S => Dk R S ∧ ∃ (rows : List (List Int)) (a b : Sl), rows.length = pre.length ∧ (∀ l ∈ rows, (l.length : Int) = w ∧ ∀ x ∈ l, 0 ≤ x ∧ x ≤ 9) ∧ env = [.fz (.ref 1), .fz (.int w), .fz (.int h), .fz (.int v), .ol (rows.map rowT), a, b])
      ⟨k1, [], _, _, rfl, fun l hl => (by cases hl), rfl⟩ ?_ ?_
    · rintro pre x post env S hx ⟨hS, rows, a, b, hl, hr, rfl⟩
      have lp : pre.length < 12 := by
        have := congrArg List.length hx
        rw [rangeZ_len, List.length_append, List.length_cons] at this
        omega
      simp_arith [rangeD_map, sm62_i (show -1000000 ≤ w by omega) (by omega)]
      refine Ok_lcA (e := D.int) (fun x => 0 ≤ x ∧ x ≤ 9) (Dk R) (by simp [sizeLine, rangeZ_len]; omega) hS (fun y _ S hS => ?_) fun gs S6 lg hg k6 => ?_
      · by_cases c2 : v = 2
        · simp_arith only [c2]
          refine draw_ok hS (by omega) (by omega) fun z S2 z0 z1 k2 => ?_
          by_cases c3 : z = 0
          · simp_arith only [c3]
            exact draw_ok k2 (by omega) (by omega) fun u S3 u0 u1 k3 => ⟨u, rfl, ⟨u0, by omega⟩, k3⟩
          · simp_arith only [c3]
            exact ⟨3, rfl, ⟨by omega, by omega⟩, k2⟩
        · simp_arith only [c2]
          exact ⟨3, rfl, ⟨by omega, by omega⟩, hS⟩
      · rw [rangeZ_len] at lg
        simp_arith [List.length_map]
        refine ⟨by unfold sizeLine; omega, ?_⟩
        simp_arith []
        refine ⟨k6, rows ++ [gs], _, _, by simp [hl], fun l hl => ?_, by simp [rowT]; exact ⟨rfl, rfl⟩⟩
        rcases List.mem_append.mp hl with hl | hl
        · exact hr l hl
        · rw [List.mem_singleton.mp hl]
          exact ⟨by omega, hg⟩
    · rintro env S ⟨hS, rows, a, b, hl, hr, rfl⟩
      simp_arith []
      rw [rangeZ_len] at hl
      exact q (some rows) S (fun r e => by cases e; exact ⟨by omega, hr⟩) hS
theorem pads_ok (hk : Dk R S) (w0 : 1 ≤ w) (w1 : w ≤ 12) (h0 : 1 ≤ h) (h1 : h ≤ 12) (q : ∀ (ps : List Pd) S', (∀ p ∈ ps, PdOk w h p) → ps.Pairwise (fun p q => q.share p = false) → 1 ≤ ps.length → ps.length ≤ 2 → Dk R S' → Q (.tup (ps.map Pd.t), S')) : Ok (callN P (n + 3) 36 [.ref 1, .int w, .int h] S) Q := by
  refine Ok_call (f := ⟨3, 7, b36⟩) hf36 rfl ?_
  unfold b36
  simp_arith []
  refine box_ok hk w0 w1 h0 h1 fun a S1 ha k1 => ?_
  simp_arith []
  have e1 : ∀ {b : Bx} {x : Int}, semBin .Add b.t (.tup [.int x]) = some (Pd.t ⟨b.a, b.b, b.c, b.d, x⟩) := rfl
  refine draw_ok k1 (by omega) (by omega) fun u S2 u0 u1 k2 => ?_
  simp_arith [e1]
  refine box_ok k2 w0 w1 h0 h1 fun b S3 hb k3 => ?_
  simp_arith []
  have pa : PdOk w h ⟨a.a, a.b, a.c, a.d, 1 + u⟩ := ⟨ha, by show 1 ≤ 1 + u; omega, by show 1 + u ≤ 4; omega⟩
  split
  · rename_i c
    simp_arith []
    refine draw_ok k3 (by omega) (by omega) fun z S4 z0 z1 k4 => ?_
    simp_arith [e1]
    have pb : PdOk w h ⟨b.a, b.b, b.c, b.d, 1 + z⟩ := ⟨hb, by show 1 ≤ 1 + z; omega, by show 1 + z ≤ 4; omega⟩
    refine q [⟨a.a, a.b, a.c, a.d, 1 + u⟩, ⟨b.a, b.b, b.c, b.d, 1 + z⟩] S4 (fun p hp => ?_) ?_ (by simp) (by simp) k4
    · simp only [List.mem_cons, List.not_mem_nil, or_false] at hp
      rcases hp with rfl | rfl
      · exact pa
      · exact pb
    · refine List.Pairwise.cons (fun p hp => ?_) (List.Pairwise.cons (fun p hp => by cases hp) List.Pairwise.nil)
      rw [List.mem_singleton.mp hp]
      unfold Pd.share share
      simp only [Bool.or_eq_true, decide_eq_true_eq] at c
      cases hz : (decide (b.a ≤ a.c) && (decide (a.a ≤ b.c) && (decide (b.b ≤ a.d) && decide (a.b ≤ b.d)))) with
      | false => rfl
      | true =>
        simp only [Bool.and_eq_true, decide_eq_true_eq] at hz
        omega
  · simp_arith []
    refine q [⟨a.a, a.b, a.c, a.d, 1 + u⟩] S3 (fun p hp => ?_) (List.Pairwise.cons (fun p hp => by cases hp) List.Pairwise.nil) (by simp) (by simp) k3
    rw [List.mem_singleton.mp hp]
    exact pa
/-- the law's lands -/
structure LdOk (m : Int) (L : Land) : Prop where
  ok : L.Ok
  d0 : 2 ≤ L.day
  d1 : L.day ≤ 6
  bar : (L.bar.length : Int) ≤ m
  peo : (L.peo.length : Int) ≤ m
  p0 : 1 ≤ L.pads.length
  p1 : L.pads.length ≤ 2
theorem fields_ok (hk : Dk R S) (m0 : 0 ≤ m) (m1 : m ≤ 8) (q : ∀ L S', LdOk m L → Dk R S' → Q (L.dct, S')) : Ok (callN P (n + 4) 37 [.ref 1, .int m] S) Q := by
  refine Ok_call (f := ⟨2, 7, b37⟩) hf37 rfl ?_
  unfold b37
  simp_arith []
  refine sizes_ok hk fun w h d S1 w0 w1 h0 h1 d0 d1 k1 => ?_
  simp_arith []
  refine heights_ok k1 w0 w1 h0 h1 fun o S2 ho k2 => ?_
  simp_arith []
  have p4 : ∀ {a b c e : D}, put (put (put (put [] (.inr "wide") a) (.inr "high") b) (.inr "day") c) (.inr "heights") e = [(.inr "wide", a), (.inr "high", b), (.inr "day", c), (.inr "heights", e)] := rfl
  have p5 : ∀ {a b c e f : D}, put [((.inr "wide" : Key), a), (.inr "high", b), (.inr "day", c), (.inr "heights", e)] (.inr "barred") f = [(.inr "wide", a), (.inr "high", b), (.inr "day", c), (.inr "heights", e), (.inr "barred", f)] := rfl
  have p6 : ∀ {a b c e f g : D}, put [((.inr "wide" : Key), a), (.inr "high", b), (.inr "day", c), (.inr "heights", e), (.inr "barred", f)] (.inr "people") g = [(.inr "wide", a), (.inr "high", b), (.inr "day", c), (.inr "heights", e), (.inr "barred", f), (.inr "people", g)] := rfl
  have p7 : ∀ {a b c e f g i : D}, put [((.inr "wide" : Key), a), (.inr "high", b), (.inr "day", c), (.inr "heights", e), (.inr "barred", f), (.inr "people", g)] (.inr "pads") i = [(.inr "wide", a), (.inr "high", b), (.inr "day", c), (.inr "heights", e), (.inr "barred", f), (.inr "people", g), (.inr "pads", i)] := rfl
  refine draw_ok k2 (by omega) (by omega) fun u S3 u0 u1 k3 => ?_
  simp_arith [rangeD_map, p4]
  refine ⟨sm62_i (by omega) (by omega), ?_⟩
  refine Ok_lcA (e := Rm.t) (RmOk w h d) (Dk R) (by simp [sizeLine, rangeZ_len]; omega) k3 (fun y _ S hS => ?_) fun bs S4 lb hb k4 => ?_
  · simp_arith only []
    exact room_ok hS w0 w1 h0 h1 (by omega) (by omega) fun r S' hr k => ⟨r, rfl, hr, k⟩
  rw [rangeZ_len] at lb
  simp_arith [p4, p5]
  refine draw_ok k4 (by omega) (by omega) fun z S5 z0 z1 k5 => ?_
  simp_arith [rangeD_map]
  refine ⟨sm62_i (by omega) (by omega), ?_⟩
  refine Ok_lcA (e := Rm.t) (RmOk w h d) (Dk R) (by simp [sizeLine, rangeZ_len]; omega) k5 (fun y _ S hS => ?_) fun cs S6 lc hc k6 => ?_
  · simp_arith only []
    exact room_ok hS w0 w1 h0 h1 (by omega) (by omega) fun r S' hr k => ⟨r, rfl, hr, k⟩
  rw [rangeZ_len] at lc
  simp_arith [p6]
  refine pads_ok k6 w0 w1 h0 h1 fun ps S7 hp hq l0 l1 k7 => ?_
  simp_arith [p7]
  exact q ⟨w, h, d, o, bs, cs, ps⟩ S7 ⟨⟨w0, w1, h0, h1, by show 1 ≤ d; omega, by show d ≤ 24; omega, ho, by show bs.length ≤ 8; omega, hb, by show cs.length ≤ 8; omega, hc, by show ps.length ≤ 4; omega, hp, hq⟩, d0, d1, by show (bs.length : Int) ≤ m; omega, by show (cs.length : Int) ≤ m; omega, l0, l1⟩ k7
/-! ### tasks -/
theorem task_ok (hk : Dk R S) (ok : L.Ok) (q : ∀ t S', TkOk L.w L.h L.day t → Dk R S' → Q (Tk.t t, S')) : Ok (callN P (n + 3) 38 [.ref 1, L.dct] S) Q := by
  have w0 := ok.w0
  have w1 := ok.w1
  have h0 := ok.h0
  have h1 := ok.h1
  have d0 := ok.d0
  have d1 := ok.d1
  refine Ok_call (f := ⟨2, 11, b38⟩) hf38 rfl ?_
  unfold b38
  simp_arith []
  refine draw_ok hk (by omega) (by omega) fun v S1 v0 v1 k1 => ?_
  simp_arith []
  refine box_ok k1 w0 w1 h0 h1 fun b S2 hb k2 => ?_
  simp_arith []
  refine box_ok k2 w0 w1 h0 h1 fun o S3 ho k3 => ?_
  simp_arith []
  refine draw_ok k3 (by omega) (by omega) fun f S4 f0 f1 k4 => ?_
  simp_arith []
  refine draw_ok k4 (by omega) (by omega) fun l S5 l0 l1 k5 => ?_
  simp_arith []
  refine draw_ok k5 (by omega) (by omega) fun u S6 u0 u1 k6 => ?_
  simp_arith []
  refine draw_ok k6 (by omega) (by omega) fun z S7 z0 z1 k7 => ?_
  simp_arith []
  refine Ok_at v0 (by simp only [List.length_cons, List.length_nil]; omega) fun x _ mx => ?_
  simp only [List.mem_cons, List.not_mem_nil, or_false] at mx
  simp only [mn] at mx
  rcases mx with rfl | rfl | rfl | rfl | rfl
  · exact q .no S7 ⟨fun b hb => (by cases hb), trivial⟩ k7
  · exact q (.look b f _) S7 ⟨fun c hc => by rw [List.mem_singleton.mp hc]; exact hb, ⟨by omega, by omega, by omega⟩⟩ k7
  · refine q (.bring b o u f _) S7 ⟨fun c hc => ?_, ⟨by omega, by omega, by omega, by omega, by omega⟩⟩ k7
    simp only [Tk.boxes, List.mem_cons, List.not_mem_nil, or_false] at hc
    rcases hc with rfl | rfl
    · exact hb
    · exact ho
  · exact q (.over b (1 + z) f _) S7 ⟨fun c hc => by rw [List.mem_singleton.mp hc]; exact hb, ⟨by omega, by omega, by omega, by omega, by omega⟩⟩ k7
  · exact q (.look b 0 L.day) S7 ⟨fun c hc => by rw [List.mem_singleton.mp hc]; exact hb, ⟨by omega, by omega, by omega⟩⟩ k7
theorem last_eq {t : Tk} : callN P (n + 1) 39 [t.t] S = some (.int (lastF t), S) := by
  refine eq_of_Ok (Ok_call (f := ⟨1, 1, b39⟩) hf39 rfl ?_)
  unfold b39
  cases t <;> unfold Tk.t
  all_goals simp_arith []
  all_goals first | rfl | exact Ok_is rfl rfl
/-! ### ways -/
theorem way_ok (hk : Dk R S) (ok : L.Ok) (m0 : 0 ≤ m) (m1 : m ≤ 24) (q : ∀ (w : List Row) S', (∀ r ∈ w, RowOk r) → (w.length : Int) ≤ m → Dk R S' → Q (wayT w, S')) : Ok (callN P (n + 3) 40 [.ref 1, L.dct, .int m] S) Q := by
  have w0 := ok.w0
  have w1 := ok.w1
  have h0 := ok.h0
  have h1 := ok.h1
  refine Ok_call (f := ⟨3, 6, b40⟩) hf40 rfl ?_
  unfold b40
  simp_arith []
  refine draw_ok hk (by omega) (by omega) fun v S1 v0 v1 k1 => ?_
  simp_arith [rangeD_map]
  refine ⟨sm62_i (by omega) (by omega), ?_⟩
  refine Ok_fr0 (enc := D.int) (fun pre env S => Dk R S ∧ ∃ (rows : List Row) (a b : Sl), rows.length = pre.length ∧ (∀ l ∈ rows, RowOk l) ∧ env = [.fz (.ref 1), .fz L.dct, .fz (.int m), .ol (rows.map Row.t), a, b])
    ⟨k1, [], _, _, rfl, fun l hl => (by cases hl), rfl⟩ ?_ ?_
  · rintro pre x post env S hx ⟨hS, rows, a, b, hl, hr, rfl⟩
    have lp : pre.length < 25 := by
      have := congrArg List.length hx
      rw [rangeZ_len, List.length_append, List.length_cons] at this
      omega
    have sz : rows.length < sizeLine := by unfold sizeLine; omega
    have go : ∀ (r : Row) (S : Sto) (a b : Sl), RowOk r → Dk R S → Dk R S ∧ ∃ (rws : List Row) (a' b' : Sl), rws.length = (pre ++ [x]).length ∧ (∀ l ∈ rws, RowOk l) ∧ [Sl.fz (.ref 1), .fz L.dct, .fz (.int m), .ol (rows.map Row.t ++ [r.t]), a, b] = [.fz (.ref 1), .fz L.dct, .fz (.int m), .ol (rws.map Row.t), a', b'] := fun r S a b hr' hS => by
      refine ⟨hS, rows ++ [r], a, b, by simp [hl], fun l hl => ?_, by simp⟩
      rcases List.mem_append.mp hl with hl | hl
      · exact hr l hl
      · rw [List.mem_singleton.mp hl]; exact hr'
    simp_arith []
    refine pick_ok hS (by simp) (by simp) fun y S2 my k2 => ?_
    simp only [List.mem_cons, List.not_mem_nil, or_false] at my
    have my : y = .str "aim" ∨ y = .str "go" ∨ y = .str "stand" ∨ y = .str "home" := by
      rcases my with rfl | rfl | rfl | rfl | rfl | rfl <;> simp
    rcases my with rfl | rfl | rfl | rfl
    · simp_arith []
      refine draw_ok k2 (by omega) (by omega) fun u S3 u0 u1 k3 => ?_
      simp_arith []
      refine draw_ok k3 (by omega) (by omega) fun z S4 z0 z1 k4 => ?_
      simp_arith [List.length_map, sz]
      exact go (.aim u z) S4 _ _ ⟨by omega, by omega, by omega, by omega⟩ k4
    · simp_arith []
      refine draw_ok k2 (by omega) (by omega) fun u S3 u0 u1 k3 => ?_
      simp_arith []
      refine draw_ok k3 (by omega) (by omega) fun z S4 z0 z1 k4 => ?_
      simp_arith [List.length_map, sz]
      exact go (.go (u - 2) (z - 2)) S4 _ _ ⟨by omega, by omega, by omega, by omega⟩ k4
    · simp_arith [List.length_map, sz]
      exact go .stand S2 _ _ trivial k2
    · simp_arith [List.length_map, sz]
      exact go .home S2 _ _ trivial k2
  · rintro env S ⟨hS, rows, a, b, hl, hr, rfl⟩
    simp_arith []
    rw [rangeZ_len] at hl
    exact q rows S hr (by omega) hS
/-! ### flights -/
theorem pd_at {ps : List Pd} {x : Int} (x0 : 0 ≤ x) (x1 : x < ps.length) : ∃ p, ps[x.toNat]? = some p ∧ p ∈ ps ∧ atI (ps.map Pd.t) x = some p.t := by
  have lt : x.toNat < ps.length := by omega
  refine ⟨ps[x.toNat], List.getElem?_eq_getElem lt, List.getElem_mem lt, ?_⟩
  unfold atI ixN
  rw [if_pos x0, if_pos (by rw [List.length_map]; exact x1)]
  show (ps.map Pd.t)[x.toNat]? = _
  rw [List.getElem?_map, List.getElem?_eq_getElem lt]
  rfl
theorem Row.not_stand {r : Row} : semIx r.t (.int 0) = some (.str (match r with | .go _ _ => "go" | .aim _ _ => "aim" | .stand => "stand" | .home => "home")) := by cases r <;> rfl
theorem flight_ok {b : Bool} (hk : Dk R S) (ok : L.Ok) (p0 : 1 ≤ L.pads.length) (q : ∀ F S', FltOk L F → Dk R S' → Q (Flt.t F, S')) : Ok (callN P (n + 4) 41 [.ref 1, L.dct, .bl b] S) Q := by
  have w0 := ok.w0
  have w1 := ok.w1
  have h0 := ok.h0
  have h1 := ok.h1
  have d0 := ok.d0
  have d1 := ok.d1
  have pl := ok.dl
  refine Ok_call (f := ⟨3, 13, b41⟩) hf41 rfl ?_
  unfold b41
  simp_arith []
  refine task_ok hk ok fun t S1 ht k1 => ?_
  simp_arith [List.length_map]
  refine draw_ok k1 (by omega) (by omega) fun hm S2 hm0 hm1 k2 => ?_
  simp_arith []
  refine draw_ok k2 (by omega) (by omega) fun a S3 a0 a1 k3 => ?_
  simp_arith []
  refine draw_ok k3 (by omega) (by omega) fun c S4 c0 c1 k4 => ?_
  simp_arith []
  refine draw_ok k4 (by omega) (by omega) fun f S5 f0 f1 k5 => ?_
  simp_arith []
  refine draw_ok k5 (by omega) (by omega) fun g S6 g0 g1 k6 => ?_
  simp_arith []
  refine draw_ok k6 (by omega) (by omega) fun x S7 x0 x1 k7 => ?_
  simp_arith []
  refine draw_ok k7 (by omega) (by omega) fun y S8 y0 y1 k8 => ?_
  simp_arith []
  refine draw_ok k8 (by omega) (by omega) fun e S9 e0 e1 k9 => ?_
  simp_arith []
  refine way_ok k9 ok (by omega) (by omega) fun wy S10 hw lw k10 => ?_
  have last0 := ht.last
  cases b with
  | true =>
    obtain ⟨p, _, mp, ep⟩ := pd_at (ps := L.pads) (x := hm) hm0 hm1
    have po := ok.pads p mp
    obtain ⟨⟨b1, b2, b3, b4, b5, b6⟩, b7, b8⟩ := po
    simp_arith [ep, sq_way]
    unfold wayT
    simp_arith [ep]
    rw [lc_flt (enc := Row.t) (g := Row.t) (p := fun r => match r with | .stand => false | _ => true) (by simp [sizeLine]; omega) fun r _ => by
      cases r <;> unfold Row.t <;> simp_arith only []]
    simp_arith []
    refine q ⟨⟨_, 9, 99, 1 + g⟩, ⟨p.a, p.b, 0, _⟩, wy.filter _, t, hm⟩ S10 ⟨⟨?_, ?_, ?_, ?_, ?_, ?_, ?_, ?_⟩, ?_, ?_, ?_, ?_, ?_, ?_, ?_, ?_, ?_, ?_, ht, hm0, hm1⟩ k10
    all_goals simp only []
    all_goals first | omega | (split <;> omega) | exact Nat.le_trans (List.length_filter_le _ _) (by omega) | exact fun r hr => hw r ((List.mem_filter.mp hr).1)
  | false =>
    simp_arith [last_eq]
    refine draw_ok k10 (by omega) (by omega) fun s S11 s0 s1 k11 => ?_
    simp_arith []
    refine q ⟨⟨a, c, 1 + f, 1 + g⟩, ⟨x, y, s, e⟩, wy, t, hm⟩ S11 ⟨⟨?_, ?_, ?_, ?_, ?_, ?_, ?_, ?_⟩, ?_, ?_, ?_, ?_, ?_, ?_, ?_, ?_, ?_, ?_, ht, hm0, hm1⟩ k11
    all_goals simp only []
    all_goals first | omega | exact hw
end
end Wf
set_option Elab.async false
set_option linter.all false
/-! == of plain data -/
namespace Wf
open PySem L2
mutual
def dqv : D → D → Bool
  | .non, .non => true
  | .bl a, .bl b => a == b
  | .bl a, .int j => (if a then 1 else 0) == j
  | .int i, .bl b => i == (if b then 1 else 0)
  | .int i, .int j => i == j
  | .str x, .str y => x == y
  | .lst xs, .lst ys => dqvs xs ys
  | .tup xs, .tup ys => dqvs xs ys
  | _, _ => false
def dqvs : List D → List D → Bool
  | [], [] => true
  | x :: xs, y :: ys => dqv x y && dqvs xs ys
  | _, _ => false
end
mutual
theorem eqv_dqv : ∀ (a b : D) (p q : PyData), a.pd = some p → b.pd = some q → PyData.eqv p q = dqv a b
  | .non, b, p, q, h1, h2 => by
    cases h1
    cases b <;> simp only [D.pd, Option.some.injEq, reduceCtorEq, Option.map_eq_some_iff] at h2 <;> first | (subst h2; simp [PyData.eqv, dqv]; done) | (obtain ⟨_, _, rfl⟩ := h2; simp [PyData.eqv, dqv])
  | .bl x, b, p, q, h1, h2 => by
    cases h1
    cases b <;> simp only [D.pd, Option.some.injEq, reduceCtorEq, Option.map_eq_some_iff] at h2 <;> first | (subst h2; simp [PyData.eqv, dqv]; done) | (obtain ⟨_, _, rfl⟩ := h2; simp [PyData.eqv, dqv])
  | .int x, b, p, q, h1, h2 => by
    cases h1
    cases b <;> simp only [D.pd, Option.some.injEq, reduceCtorEq, Option.map_eq_some_iff] at h2 <;> first | (subst h2; simp [PyData.eqv, dqv]; done) | (obtain ⟨_, _, rfl⟩ := h2; simp [PyData.eqv, dqv])
  | .str x, b, p, q, h1, h2 => by
    cases h1
    cases b <;> simp only [D.pd, Option.some.injEq, reduceCtorEq, Option.map_eq_some_iff] at h2 <;> first | (subst h2; simp [PyData.eqv, dqv]; done) | (obtain ⟨_, _, rfl⟩ := h2; simp [PyData.eqv, dqv])
  | .tup xs, b, p, q, h1, h2 => by
    simp only [D.pd, Option.map_eq_some_iff] at h1
    obtain ⟨ps, e1, rfl⟩ := h1
    cases b <;> simp only [D.pd, Option.some.injEq, reduceCtorEq, Option.map_eq_some_iff] at h2 <;> first | (subst h2; simp [PyData.eqv, dqv]; done) | skip
    · obtain ⟨qs, e2, rfl⟩ := h2
      rw [PyData.eqv, dqv]
      exact eqvs_dqv xs _ ps qs e1 e2
    · obtain ⟨qs, e2, rfl⟩ := h2
      simp [PyData.eqv, dqv]
  | .lst xs, b, p, q, h1, h2 => by
    simp only [D.pd, Option.map_eq_some_iff] at h1
    obtain ⟨ps, e1, rfl⟩ := h1
    cases b <;> simp only [D.pd, Option.some.injEq, reduceCtorEq, Option.map_eq_some_iff] at h2 <;> first | (subst h2; simp [PyData.eqv, dqv]; done) | skip
    · obtain ⟨qs, e2, rfl⟩ := h2
      simp [PyData.eqv, dqv]
    · obtain ⟨qs, e2, rfl⟩ := h2
      rw [PyData.eqv, dqv]
      exact eqvs_dqv xs _ ps qs e1 e2
  | .dct _, _, _, _, h1, _ => by cases h1
  | .ref _, _, _, _, h1, _ => by cases h1
  | .scr _, _, _, _, h1, _ => by cases h1
  | .kdc _, _, _, _, h1, _ => by cases h1
theorem eqvs_dqv : ∀ (as bs : List D) (ps qs : List PyData), pdAll as = some ps → pdAll bs = some qs → PyData.eqvAll ps qs = dqvs as bs
  | [], [], ps, qs, h1, h2 => by cases h1; cases h2; rfl
  | [], b :: bs, ps, qs, h1, h2 => by
    cases h1
    rw [pdAll] at h2
    split at h2
    · cases h2; rfl
    · cases h2
  | a :: as, [], ps, qs, h1, h2 => by
    cases h2
    rw [pdAll] at h1
    split at h1
    · cases h1; rfl
    · cases h1
  | a :: as, b :: bs, ps, qs, h1, h2 => by
    rw [pdAll] at h1 h2
    split at h1
    · rename_i p1 ps1 f1 f2
      cases h1
      split at h2
      · rename_i q1 qs1 g1 g2
        cases h2
        rw [PyData.eqvAll, dqvs, eqv_dqv a b p1 q1 f1 g1, eqvs_dqv as bs ps1 qs1 f2 g2]
      · cases h2
    · cases h1
end
/-- what may be compared: so deep -/
def Cm (d : D) (k : Nat) : Prop := ∃ p, d.pd = some p ∧ p.canLay0 = true ∧ p.depth ≤ k
def Cms (ds : List D) (k : Nat) : Prop := ∃ ps, pdAll ds = some ps ∧ PyData.canLayAll0 ps = true ∧ PyData.depthAll ps ≤ k
section
variable {k : Nat} {d a b : D} {ds : List D}
theorem Cm.non : Cm .non k := ⟨.none, rfl, rfl, Nat.zero_le _⟩
theorem Cm.bl {b : Bool} : Cm (.bl b) k := ⟨.bool b, rfl, rfl, Nat.zero_le _⟩
theorem Cm.int {i : Int} : Cm (.int i) k := ⟨.int i, rfl, rfl, Nat.zero_le _⟩
theorem Cm.str {x : Str} (h : PyData.strOk x = true) : Cm (.str x) k := ⟨.str x, rfl, h, Nat.zero_le _⟩
theorem Cms.nil : Cms [] k := ⟨[], rfl, rfl, Nat.zero_le _⟩
theorem Cms.cons (h : Cm d k) (hs : Cms ds k) : Cms (d :: ds) k := by
  obtain ⟨p, e1, e2, e3⟩ := h
  obtain ⟨ps, f1, f2, f3⟩ := hs
  exact ⟨p :: ps, by rw [pdAll, e1, f1], by rw [PyData.canLayAll0, e2, f2]; rfl, by rw [PyData.depthAll]; omega⟩
theorem Cms.map {β : Type} {g : β → D} : ∀ {xs : List β}, (∀ x ∈ xs, Cm (g x) k) → Cms (xs.map g) k
  | [], _ => Cms.nil
  | x :: xs, h => Cms.cons (h x List.mem_cons_self) (Cms.map fun y hy => h y (List.mem_cons_of_mem _ hy))
theorem Cm.tup (h : Cms ds k) : Cm (.tup ds) (k + 1) := by
  obtain ⟨ps, f1, f2, f3⟩ := h
  exact ⟨.tuple ps, by rw [D.pd, f1]; rfl, by rw [PyData.canLay0]; exact f2, by rw [PyData.depth]; omega⟩
theorem Cm.lst (h : Cms ds k) : Cm (.lst ds) (k + 1) := by
  obtain ⟨ps, f1, f2, f3⟩ := h
  exact ⟨.list ps, by rw [D.pd, f1]; rfl, by rw [PyData.canLay0]; exact f2, by rw [PyData.depth]; omega⟩
theorem Cm.up {j : Nat} (h : Cm d k) (hj : k ≤ j) : Cm d j := let ⟨p, e1, e2, e3⟩ := h; ⟨p, e1, e2, Nat.le_trans e3 hj⟩
theorem semEq_is {j : Nat} (ha : Cm a k) (hb : Cm b j) (hk : k ≤ 64) (hj : j ≤ 64) : semEq a b = some (dqv a b) := by
  obtain ⟨p, e1, e2, e3⟩ := ha
  obtain ⟨q, f1, f2, f3⟩ := hb
  have s1 : SeqAt.shaped p = true := by unfold SeqAt.shaped; rw [e2, Bool.true_and, decide_eq_true_eq]; omega
  have s2 : SeqAt.shaped q = true := by unfold SeqAt.shaped; rw [f2, Bool.true_and, decide_eq_true_eq]; omega
  unfold semEq
  rw [e1, f1]
  simp only [s1, s2, Bool.and_self, if_true]
  rw [eqv_dqv a b p q e1 f1]
end
theorem Row.cm {r : Row} : Cm r.t 1 := by
  cases r with
  | go x y => exact Cm.tup (Cms.cons (Cm.str (by decide +kernel)) (Cms.cons Cm.int (Cms.cons Cm.int Cms.nil)))
  | aim x y => exact Cm.tup (Cms.cons (Cm.str (by decide +kernel)) (Cms.cons Cm.int (Cms.cons Cm.int Cms.nil)))
  | stand => exact Cm.tup (Cms.cons (Cm.str (by decide +kernel)) Cms.nil)
  | home => exact Cm.tup (Cms.cons (Cm.str (by decide +kernel)) Cms.nil)
theorem c_eqT {xs : List D} {b : D} : semCmp .Eq (.tup xs) b = semEq (.tup xs) b := by cases b <;> rfl
theorem c_neT {xs : List D} {b : D} : semCmp .NotEq (.tup xs) b = (semEq (.tup xs) b).map (!·) := by cases b <;> rfl
theorem c_home {r : Row} : semCmp .Eq r.t (.tup [.str "home"]) = some (match r with | .home => true | _ => false) := by
  have e : semCmp .Eq r.t (.tup [.str "home"]) = semEq r.t (Row.home).t := by cases r <;> rfl
  rw [e, semEq_is Row.cm Row.cm (by decide) (by decide)]
  cases r <;> rfl
end Wf
-- ENC2
set_option Elab.async false
set_option linter.all false
set_option maxRecDepth 100000
namespace Wf
open PySem L2
local macro_rules | `(tactic| simp_arith only [$xs,*]) => `(tactic| simp +decide only [Ok_cons, Ok_nil, SK_nx, SK_rt, FK_rt, FK_nx, evS, evE, evP, evEs, evQs, evPs, evO, evC, evI, evMs, setAll, ownS, Ok_bind, Ok_map, Ok_some, Ok_none, Ok_ite, getS, peekS, setS, wipeS, orc, permA, keyOf, List.map_cons, List.map_nil, List.cons_append, List.nil_append, List.append_nil, List.replicate, List.length_cons, List.length_nil, List.getElem?_cons_zero, List.getElem?_cons_succ, List.set_cons_zero, List.set_cons_succ, Option.map_some, Option.bind_some, Option.map_none, Option.bind_none, asgT, asgTs, sq_t, sq_l, Ts.len, starD, List.take_succ_cons, List.take_zero, List.drop_succ_cons, List.drop_zero, List.take_nil, List.drop_nil, List.flatten_cons, List.flatten_nil, List.foldl_cons, List.foldl_nil, tp_n, tp_b, tp_i, tp_s, tp_t, tp_l, tp_d, tp_k, tp_c, tp_r0, tp_r1, ix_l, ix_t, ix_k, ix_d, ix_di, at0, at1, at2, at3, at4, at5, at6, at7, atm1, atm2, atm3, b_add, b_sub, b_mul, b_div, b_mod, b_pow, b_addT, b_addL, b_mulL, c_lt, c_le, c_gt, c_ge, c_eq, c_ne, c_eqs, c_nes, c_is, c_isnt, n_n, n_t, n_i, n_l, bl_b, int_i, f_len, f_lenT, f_min, f_max, f_min3, f_max3, f_abs, f_intB, f_int, f_tup, f_tupT, f_lst, f_lstT, f_sum, r_l0, r_l1, ints_map, c_neNil, c_eqNil, c_ne00, sz0, pt0, pt1, pt2, isi_i, isi_t, isi_n, isi_b, isi_l, isi_s, cutT, cutL, cut_to, cut_from, fold_and, fold_or, fold_ite, fold_iteI, fold_iteB, fold_flt, ite_bF, ite_bT, szle, szlt, sm62_i, tp_Bx, sq_Bx, ix_Bx_0, ix_Bx_1, ix_Bx_2, ix_Bx_3, ix_Bx_m1, ix_Bx_m2, ix_Bx_m3, len_Bx, non_Bx, tp_Rm, sq_Rm, ix_Rm_0, ix_Rm_1, ix_Rm_2, ix_Rm_3, ix_Rm_4, ix_Rm_5, ix_Rm_m1, ix_Rm_m2, ix_Rm_m3, len_Rm, non_Rm, tp_Pd, sq_Pd, ix_Pd_0, ix_Pd_1, ix_Pd_2, ix_Pd_3, ix_Pd_4, ix_Pd_m1, ix_Pd_m2, ix_Pd_m3, len_Pd, non_Pd, tp_Fy, sq_Fy, ix_Fy_0, ix_Fy_1, ix_Fy_2, ix_Fy_3, ix_Fy_m1, ix_Fy_m2, ix_Fy_m3, len_Fy, non_Fy, tp_St, sq_St, ix_St_0, ix_St_1, ix_St_2, ix_St_3, ix_St_m1, ix_St_m2, ix_St_m3, len_St, non_St, tp_Flt, sq_Flt, ix_Flt_0, ix_Flt_1, ix_Flt_2, ix_Flt_3, ix_Flt_4, ix_Flt_m1, ix_Flt_m2, ix_Flt_m3, len_Flt, non_Flt, tp_Ld, ix_Ld_w, ix_Ld_h, ix_Ld_d, ix_Ld_hs, ix_Ld_bar, ix_Ld_peo, ix_Ld_pads, tp_hs, tp_Tk, tp_Row, tp_way, sq_way, len_way, non_Row, reduceIte, if_true, if_false, ite_true, ite_false, if_false_right, if_false_left, decide_eq_true_eq, Bool.not_eq_true', Bool.not_true, Bool.not_false, decide_eq_false_iff_not, Bool.false_eq_true, Bool.true_and, Bool.and_true, Bool.false_and, Bool.and_false, Bool.or_true, Bool.or_false, Bool.false_or, Bool.true_or, reduceCtorEq, true_and, and_true, Int.reduceLT, Int.reduceLE, Int.reducePow, Int.reduceNeg, Int.reduceMul, Int.reduceAdd, Int.reduceSub, Int.reduceToNat, Int.reduceEq, na10, Nat.reducePow, Nat.reduceLT, Nat.reduceLeDiff, Nat.reduceAdd, Nat.reduceSub, true_or, or_true, and_self, decide_true, decide_false, Bool.decide_eq_true, Bool.and_self, Bool.not_not, eq_self, not_true_eq_false, not_false_eq_true, $xs,*])
local macro_rules | `(tactic| simp_arith only [$xs,*] at $h:ident) => `(tactic| simp +decide only [Ok_cons, Ok_nil, SK_nx, SK_rt, FK_rt, FK_nx, evS, evE, evP, evEs, evQs, evPs, evO, evC, evI, evMs, setAll, ownS, Ok_bind, Ok_map, Ok_some, Ok_none, Ok_ite, getS, peekS, setS, wipeS, orc, permA, keyOf, List.map_cons, List.map_nil, List.cons_append, List.nil_append, List.append_nil, List.replicate, List.length_cons, List.length_nil, List.getElem?_cons_zero, List.getElem?_cons_succ, List.set_cons_zero, List.set_cons_succ, Option.map_some, Option.bind_some, Option.map_none, Option.bind_none, asgT, asgTs, sq_t, sq_l, Ts.len, starD, List.take_succ_cons, List.take_zero, List.drop_succ_cons, List.drop_zero, List.take_nil, List.drop_nil, List.flatten_cons, List.flatten_nil, List.foldl_cons, List.foldl_nil, tp_n, tp_b, tp_i, tp_s, tp_t, tp_l, tp_d, tp_k, tp_c, tp_r0, tp_r1, ix_l, ix_t, ix_k, ix_d, ix_di, at0, at1, at2, at3, at4, at5, at6, at7, atm1, atm2, atm3, b_add, b_sub, b_mul, b_div, b_mod, b_pow, b_addT, b_addL, b_mulL, c_lt, c_le, c_gt, c_ge, c_eq, c_ne, c_eqs, c_nes, c_is, c_isnt, n_n, n_t, n_i, n_l, bl_b, int_i, f_len, f_lenT, f_min, f_max, f_min3, f_max3, f_abs, f_intB, f_int, f_tup, f_tupT, f_lst, f_lstT, f_sum, r_l0, r_l1, ints_map, c_neNil, c_eqNil, c_ne00, sz0, pt0, pt1, pt2, isi_i, isi_t, isi_n, isi_b, isi_l, isi_s, cutT, cutL, cut_to, cut_from, fold_and, fold_or, fold_ite, fold_iteI, fold_iteB, fold_flt, ite_bF, ite_bT, szle, szlt, sm62_i, tp_Bx, sq_Bx, ix_Bx_0, ix_Bx_1, ix_Bx_2, ix_Bx_3, ix_Bx_m1, ix_Bx_m2, ix_Bx_m3, len_Bx, non_Bx, tp_Rm, sq_Rm, ix_Rm_0, ix_Rm_1, ix_Rm_2, ix_Rm_3, ix_Rm_4, ix_Rm_5, ix_Rm_m1, ix_Rm_m2, ix_Rm_m3, len_Rm, non_Rm, tp_Pd, sq_Pd, ix_Pd_0, ix_Pd_1, ix_Pd_2, ix_Pd_3, ix_Pd_4, ix_Pd_m1, ix_Pd_m2, ix_Pd_m3, len_Pd, non_Pd, tp_Fy, sq_Fy, ix_Fy_0, ix_Fy_1, ix_Fy_2, ix_Fy_3, ix_Fy_m1, ix_Fy_m2, ix_Fy_m3, len_Fy, non_Fy, tp_St, sq_St, ix_St_0, ix_St_1, ix_St_2, ix_St_3, ix_St_m1, ix_St_m2, ix_St_m3, len_St, non_St, tp_Flt, sq_Flt, ix_Flt_0, ix_Flt_1, ix_Flt_2, ix_Flt_3, ix_Flt_4, ix_Flt_m1, ix_Flt_m2, ix_Flt_m3, len_Flt, non_Flt, tp_Ld, ix_Ld_w, ix_Ld_h, ix_Ld_d, ix_Ld_hs, ix_Ld_bar, ix_Ld_peo, ix_Ld_pads, tp_hs, tp_Tk, tp_Row, tp_way, sq_way, len_way, non_Row, reduceIte, if_true, if_false, ite_true, ite_false, if_false_right, if_false_left, decide_eq_true_eq, Bool.not_eq_true', Bool.not_true, Bool.not_false, decide_eq_false_iff_not, Bool.false_eq_true, Bool.true_and, Bool.and_true, Bool.false_and, Bool.and_false, Bool.or_true, Bool.or_false, Bool.false_or, Bool.true_or, reduceCtorEq, true_and, and_true, Int.reduceLT, Int.reduceLE, Int.reducePow, Int.reduceNeg, Int.reduceMul, Int.reduceAdd, Int.reduceSub, Int.reduceToNat, Int.reduceEq, na10, Nat.reducePow, Nat.reduceLT, Nat.reduceLeDiff, Nat.reduceAdd, Nat.reduceSub, true_or, or_true, and_self, decide_true, decide_false, Bool.decide_eq_true, Bool.and_self, Bool.not_not, eq_self, not_true_eq_false, not_false_eq_true, $xs,*] at $h:ident)
local macro_rules | `(tactic| simp_arith [$xs,*]) => `(tactic| repeat (first | with_reducible (refine SKn ?_) | with_reducible (refine SKr ?_) | with_reducible (refine Okc ?_) | with_reducible (refine Okn ?_) | with_reducible (refine FRn ?_) | with_reducible (refine FRr ?_) | with_reducible (refine fr_cons ?_) | with_reducible (refine fr_nil ?_) | simp +decide only [FK_rt, FK_nx, evS, evE, evP, evEs, evQs, evPs, evO, evC, evI, evMs, setAll, ownS, Ok_bind, Ok_map, Ok_some, Ok_none, Ok_ite, getS, peekS, setS, wipeS, orc, permA, keyOf, List.map_cons, List.map_nil, List.cons_append, List.nil_append, List.append_nil, List.replicate, List.length_cons, List.length_nil, List.getElem?_cons_zero, List.getElem?_cons_succ, List.set_cons_zero, List.set_cons_succ, Option.map_some, Option.bind_some, Option.map_none, Option.bind_none, asgT, asgTs, sq_t, sq_l, Ts.len, starD, List.take_succ_cons, List.take_zero, List.drop_succ_cons, List.drop_zero, List.take_nil, List.drop_nil, List.flatten_cons, List.flatten_nil, List.foldl_cons, List.foldl_nil, tp_n, tp_b, tp_i, tp_s, tp_t, tp_l, tp_d, tp_k, tp_c, tp_r0, tp_r1, ix_l, ix_t, ix_k, ix_d, ix_di, at0, at1, at2, at3, at4, at5, at6, at7, atm1, atm2, atm3, b_add, b_sub, b_mul, b_div, b_mod, b_pow, b_addT, b_addL, b_mulL, c_lt, c_le, c_gt, c_ge, c_eq, c_ne, c_eqs, c_nes, c_is, c_isnt, n_n, n_t, n_i, n_l, bl_b, int_i, f_len, f_lenT, f_min, f_max, f_min3, f_max3, f_abs, f_intB, f_int, f_tup, f_tupT, f_lst, f_lstT, f_sum, r_l0, r_l1, ints_map, c_neNil, c_eqNil, c_ne00, sz0, pt0, pt1, pt2, isi_i, isi_t, isi_n, isi_b, isi_l, isi_s, cutT, cutL, cut_to, cut_from, fold_and, fold_or, fold_ite, fold_iteI, fold_iteB, fold_flt, ite_bF, ite_bT, szle, szlt, sm62_i, tp_Bx, sq_Bx, ix_Bx_0, ix_Bx_1, ix_Bx_2, ix_Bx_3, ix_Bx_m1, ix_Bx_m2, ix_Bx_m3, len_Bx, non_Bx, tp_Rm, sq_Rm, ix_Rm_0, ix_Rm_1, ix_Rm_2, ix_Rm_3, ix_Rm_4, ix_Rm_5, ix_Rm_m1, ix_Rm_m2, ix_Rm_m3, len_Rm, non_Rm, tp_Pd, sq_Pd, ix_Pd_0, ix_Pd_1, ix_Pd_2, ix_Pd_3, ix_Pd_4, ix_Pd_m1, ix_Pd_m2, ix_Pd_m3, len_Pd, non_Pd, tp_Fy, sq_Fy, ix_Fy_0, ix_Fy_1, ix_Fy_2, ix_Fy_3, ix_Fy_m1, ix_Fy_m2, ix_Fy_m3, len_Fy, non_Fy, tp_St, sq_St, ix_St_0, ix_St_1, ix_St_2, ix_St_3, ix_St_m1, ix_St_m2, ix_St_m3, len_St, non_St, tp_Flt, sq_Flt, ix_Flt_0, ix_Flt_1, ix_Flt_2, ix_Flt_3, ix_Flt_4, ix_Flt_m1, ix_Flt_m2, ix_Flt_m3, len_Flt, non_Flt, tp_Ld, ix_Ld_w, ix_Ld_h, ix_Ld_d, ix_Ld_hs, ix_Ld_bar, ix_Ld_peo, ix_Ld_pads, tp_hs, tp_Tk, tp_Row, tp_way, sq_way, len_way, non_Row, reduceIte, if_true, if_false, ite_true, ite_false, if_false_right, if_false_left, decide_eq_true_eq, Bool.not_eq_true', Bool.not_true, Bool.not_false, decide_eq_false_iff_not, Bool.false_eq_true, Bool.true_and, Bool.and_true, Bool.false_and, Bool.and_false, Bool.or_true, Bool.or_false, Bool.false_or, Bool.true_or, reduceCtorEq, true_and, and_true, Int.reduceLT, Int.reduceLE, Int.reducePow, Int.reduceNeg, Int.reduceMul, Int.reduceAdd, Int.reduceSub, Int.reduceToNat, Int.reduceEq, na10, Nat.reducePow, Nat.reduceLT, Nat.reduceLeDiff, Nat.reduceAdd, Nat.reduceSub, true_or, or_true, and_self, decide_true, decide_false, Bool.decide_eq_true, Bool.and_self, Bool.not_not, eq_self, not_true_eq_false, not_false_eq_true, $xs,*]))
section
variable {P : Prg} [HasF P Gk37] [HasF P Gk07] {n i : Nat} {R S : Sto} {w h d x y m : Int} {L : Land} {F : Flt} {s b : Int}
/-- the row at a beat -/
def turned (b : Int) : Option Int → Bool
  | some t => decide (b ≥ t)
  | none => false
def rowAt (F : Flt) (s b : Int) (turn : Option Int) : Row :=
  if turned b turn = true ∨ b - s ≥ F.way.length then .home else (F.way[(b - s).toNat]?).getD .home
def turnT : Option Int → D
  | none => .non
  | some t => .int t
theorem way_at {w : List Row} {x : Int} (x0 : 0 ≤ x) (x1 : x < w.length) : semIx (wayT w) (.int x) = some ((w[x.toNat]?).getD .home).t := by
  have lt : x.toNat < w.length := by omega
  show atI (w.map Row.t) x = _
  unfold atI ixN
  rw [if_pos x0, if_pos (by rw [List.length_map]; exact x1)]
  show (w.map Row.t)[x.toNat]? = _
  rw [List.getElem?_map, List.getElem?_eq_getElem lt]
  rfl
theorem row_at_eq {t : Option Int} (hs : s ≤ b) : callN P (n + 1) 28 [F.t, .int s, .int b, turnT t] S = some ((rowAt F s b t).t, S) := by
  refine eq_of_Ok (Ok_call (f := ⟨4, 9, b28⟩) hf28 rfl ?_)
  unfold b28
  unfold rowAt turned
  cases t with
  | none =>
    unfold turnT
    simp_arith []
    by_cases c : b - s ≥ F.way.length
    · simp_arith [c]
      rfl
    · simp_arith [c, way_at (w := F.way) (x := b - s) (by omega) (by omega)]
  | some t =>
    unfold turnT
    by_cases c1 : b ≥ t
    · simp_arith [c1]
      rfl
    · by_cases c : b - s ≥ F.way.length
      · simp_arith [c, c1]
        rfl
      · simp_arith [c, c1, way_at (w := F.way) (x := b - s) (by omega) (by omega)]
theorem lrow_eq {t : Option Int} (hs : s ≤ b) : callN P (n + 1) 42 [F.t, .int s, .int b, turnT t] S = some ((rowAt F s b t).t, S) := by
  refine eq_of_Ok (Ok_call (f := ⟨4, 5, b42⟩) hf42 rfl ?_)
  unfold b42
  unfold rowAt turned
  cases t with
  | none =>
    unfold turnT
    by_cases c : b - s ≥ F.way.length
    · simp_arith [c]
      rfl
    · simp_arith [c, way_at (w := F.way) (x := b - s) (by omega) (by omega)]
  | some t =>
    unfold turnT
    by_cases c1 : b ≥ t
    · simp_arith [c1]
      rfl
    · by_cases c : b - s ≥ F.way.length
      · simp_arith [c, c1]
        rfl
      · simp_arith [c, c1, way_at (w := F.way) (x := b - s) (by omega) (by omega)]
/-- no further from 0 than reach -/
def clipR (r v : Int) : Int := if (if v < r then v else r) > 0 - r then (if v < r then v else r) else 0 - r
def padX (p : Pd) : Int := (p.a + p.c) / 2
def padY (p : Pd) : Int := (p.b + p.d) / 2
def pad0 : Pd := ⟨0, 0, 0, 0, 1⟩
def Land.pad (L : Land) (k : Int) : Pd := (L.pads[k.toNat]?).getD pad0
def wishX (L : Land) (F : Flt) (r : Row) (x : Int) : Int := clipR F.fy.r (match r with | .go a _ => a | .aim a _ => a - x | _ => padX (L.pad F.home) - x)
def wishY (L : Land) (F : Flt) (r : Row) (y : Int) : Int := clipR F.fy.r (match r with | .go _ b => b | .aim _ b => b - y | _ => padY (L.pad F.home) - y)
def wishT (L : Land) (F : Flt) (r : Row) (x y : Int) : D := .tup [.int (wishX L F r x), .int (wishY L F r y)]
theorem no_further_eq {v r : Int} : callN P (n + 1) 29 [.int v, .int r] S = some (.int (clipR r v), S) := by
  refine eq_of_Ok (Ok_call (f := ⟨2, 2, b29⟩) hf29 rfl ?_)
  unfold b29
  simp_arith only [clipR]
theorem middle_of_eq {p : Pd} : callN P (n + 1) 30 [p.t] S = some (.tup [.int (padX p), .int (padY p)], S) := by
  refine eq_of_Ok (Ok_call (f := ⟨1, 6, b30⟩) hf30 rfl ?_)
  unfold b30
  simp_arith only [padX, padY]
theorem pad_at_ix (h0 : 0 ≤ F.home) (h1 : F.home < L.pads.length) : semIx (.tup (L.pads.map Pd.t)) (.int F.home) = some (L.pad F.home).t := by
  obtain ⟨p, e1, _, e2⟩ := pd_at (ps := L.pads) h0 h1
  show atI _ _ = _
  rw [e2]
  unfold Land.pad
  rw [e1]
  rfl
theorem wish_of_eq {r : Row} (hL : LdAt S i L) (hr : r ≠ .stand) (h0 : 0 ≤ F.home) (h1 : F.home < L.pads.length) : callN P (n + 2) 31 [.ref i, F.t, r.t, .int x, .int y] S = some (wishT L F r x y, S) := by
  refine eq_of_Ok (Ok_call (f := ⟨5, 14, b31⟩) hf31 rfl ?_)
  unfold b31
  have e := pad_at_ix h0 h1
  cases r with
  | stand => exact absurd rfl hr
  | go a b =>
    unfold Row.t
    simp_arith [no_further_eq]
    rfl
  | aim a b =>
    have e2 := c_home (r := .aim a b)
    unfold Row.t at e2 ⊢
    simp_arith [no_further_eq, e2]
    rfl
  | home =>
    have e2 := c_home (r := .home)
    unfold Row.t at e2 ⊢
    simp_arith [no_further_eq, e2, refI_is hL, lk_pads, e, middle_of_eq]
    rfl
theorem lwish_eq {r : Row} (hr : r ≠ .stand) (h0 : 0 ≤ F.home) (h1 : F.home < L.pads.length) : callN P (n + 1) 43 [L.dct, F.t, r.t, .int x, .int y] S = some (wishT L F r x y, S) := by
  refine eq_of_Ok (Ok_call (f := ⟨5, 13, b43⟩) hf43 rfl ?_)
  unfold b43
  have e := pad_at_ix h0 h1
  have sz : ∀ {k : Nat}, k ≤ 100 → k < sizeLine := fun h => by unfold sizeLine; omega
  cases r with
  | stand => exact absurd rfl hr
  | go a b =>
    unfold Row.t
    simp_arith [lcGo_cons, lcGo_nil]
    rfl
  | aim a b =>
    unfold Row.t
    simp_arith [lcGo_cons, lcGo_nil]
    rfl
  | home =>
    unfold Row.t
    simp_arith [lcGo_cons, lcGo_nil, e]
    rfl
end
end Wf
-- ENC2
set_option Elab.async false
set_option linter.all false
set_option maxRecDepth 100000
namespace Wf
open PySem L2
local macro_rules | `(tactic| simp_arith only [$xs,*]) => `(tactic| simp +decide only [Ok_cons, Ok_nil, SK_nx, SK_rt, FK_rt, FK_nx, evS, evE, evP, evEs, evQs, evPs, evO, evC, evI, evMs, setAll, ownS, Ok_bind, Ok_map, Ok_some, Ok_none, Ok_ite, getS, peekS, setS, wipeS, orc, permA, keyOf, List.map_cons, List.map_nil, List.cons_append, List.nil_append, List.append_nil, List.replicate, List.length_cons, List.length_nil, List.getElem?_cons_zero, List.getElem?_cons_succ, List.set_cons_zero, List.set_cons_succ, Option.map_some, Option.bind_some, Option.map_none, Option.bind_none, asgT, asgTs, sq_t, sq_l, Ts.len, starD, List.take_succ_cons, List.take_zero, List.drop_succ_cons, List.drop_zero, List.take_nil, List.drop_nil, List.flatten_cons, List.flatten_nil, List.foldl_cons, List.foldl_nil, tp_n, tp_b, tp_i, tp_s, tp_t, tp_l, tp_d, tp_k, tp_c, tp_r0, tp_r1, ix_l, ix_t, ix_k, ix_d, ix_di, at0, at1, at2, at3, at4, at5, at6, at7, atm1, atm2, atm3, b_add, b_sub, b_mul, b_div, b_mod, b_pow, b_addT, b_addL, b_mulL, c_lt, c_le, c_gt, c_ge, c_eq, c_ne, c_eqs, c_nes, c_is, c_isnt, n_n, n_t, n_i, n_l, bl_b, int_i, f_len, f_lenT, f_min, f_max, f_min3, f_max3, f_abs, f_intB, f_int, f_tup, f_tupT, f_lst, f_lstT, f_sum, r_l0, r_l1, ints_map, c_neNil, c_eqNil, c_ne00, sz0, pt0, pt1, pt2, isi_i, isi_t, isi_n, isi_b, isi_l, isi_s, cutT, cutL, cut_to, cut_from, fold_and, fold_or, fold_ite, fold_iteI, fold_iteB, fold_flt, ite_bF, ite_bT, szle, szlt, sm62_i, tp_Bx, sq_Bx, ix_Bx_0, ix_Bx_1, ix_Bx_2, ix_Bx_3, ix_Bx_m1, ix_Bx_m2, ix_Bx_m3, len_Bx, non_Bx, tp_Rm, sq_Rm, ix_Rm_0, ix_Rm_1, ix_Rm_2, ix_Rm_3, ix_Rm_4, ix_Rm_5, ix_Rm_m1, ix_Rm_m2, ix_Rm_m3, len_Rm, non_Rm, tp_Pd, sq_Pd, ix_Pd_0, ix_Pd_1, ix_Pd_2, ix_Pd_3, ix_Pd_4, ix_Pd_m1, ix_Pd_m2, ix_Pd_m3, len_Pd, non_Pd, tp_Fy, sq_Fy, ix_Fy_0, ix_Fy_1, ix_Fy_2, ix_Fy_3, ix_Fy_m1, ix_Fy_m2, ix_Fy_m3, len_Fy, non_Fy, tp_St, sq_St, ix_St_0, ix_St_1, ix_St_2, ix_St_3, ix_St_m1, ix_St_m2, ix_St_m3, len_St, non_St, tp_Flt, sq_Flt, ix_Flt_0, ix_Flt_1, ix_Flt_2, ix_Flt_3, ix_Flt_4, ix_Flt_m1, ix_Flt_m2, ix_Flt_m3, len_Flt, non_Flt, tp_Ld, ix_Ld_w, ix_Ld_h, ix_Ld_d, ix_Ld_hs, ix_Ld_bar, ix_Ld_peo, ix_Ld_pads, tp_hs, tp_Tk, tp_Row, tp_way, sq_way, len_way, non_Row, reduceIte, if_true, if_false, ite_true, ite_false, if_false_right, if_false_left, decide_eq_true_eq, Bool.not_eq_true', Bool.not_true, Bool.not_false, decide_eq_false_iff_not, Bool.false_eq_true, Bool.true_and, Bool.and_true, Bool.false_and, Bool.and_false, Bool.or_true, Bool.or_false, Bool.false_or, Bool.true_or, reduceCtorEq, true_and, and_true, Int.reduceLT, Int.reduceLE, Int.reducePow, Int.reduceNeg, Int.reduceMul, Int.reduceAdd, Int.reduceSub, Int.reduceToNat, Int.reduceEq, na10, Nat.reducePow, Nat.reduceLT, Nat.reduceLeDiff, Nat.reduceAdd, Nat.reduceSub, true_or, or_true, and_self, decide_true, decide_false, Bool.decide_eq_true, Bool.and_self, Bool.not_not, eq_self, not_true_eq_false, not_false_eq_true, $xs,*])
local macro_rules | `(tactic| simp_arith only [$xs,*] at $h:ident) => `(tactic| simp +decide only [Ok_cons, Ok_nil, SK_nx, SK_rt, FK_rt, FK_nx, evS, evE, evP, evEs, evQs, evPs, evO, evC, evI, evMs, setAll, ownS, Ok_bind, Ok_map, Ok_some, Ok_none, Ok_ite, getS, peekS, setS, wipeS, orc, permA, keyOf, List.map_cons, List.map_nil, List.cons_append, List.nil_append, List.append_nil, List.replicate, List.length_cons, List.length_nil, List.getElem?_cons_zero, List.getElem?_cons_succ, List.set_cons_zero, List.set_cons_succ, Option.map_some, Option.bind_some, Option.map_none, Option.bind_none, asgT, asgTs, sq_t, sq_l, Ts.len, starD, List.take_succ_cons, List.take_zero, List.drop_succ_cons, List.drop_zero, List.take_nil, List.drop_nil, List.flatten_cons, List.flatten_nil, List.foldl_cons, List.foldl_nil, tp_n, tp_b, tp_i, tp_s, tp_t, tp_l, tp_d, tp_k, tp_c, tp_r0, tp_r1, ix_l, ix_t, ix_k, ix_d, ix_di, at0, at1, at2, at3, at4, at5, at6, at7, atm1, atm2, atm3, b_add, b_sub, b_mul, b_div, b_mod, b_pow, b_addT, b_addL, b_mulL, c_lt, c_le, c_gt, c_ge, c_eq, c_ne, c_eqs, c_nes, c_is, c_isnt, n_n, n_t, n_i, n_l, bl_b, int_i, f_len, f_lenT, f_min, f_max, f_min3, f_max3, f_abs, f_intB, f_int, f_tup, f_tupT, f_lst, f_lstT, f_sum, r_l0, r_l1, ints_map, c_neNil, c_eqNil, c_ne00, sz0, pt0, pt1, pt2, isi_i, isi_t, isi_n, isi_b, isi_l, isi_s, cutT, cutL, cut_to, cut_from, fold_and, fold_or, fold_ite, fold_iteI, fold_iteB, fold_flt, ite_bF, ite_bT, szle, szlt, sm62_i, tp_Bx, sq_Bx, ix_Bx_0, ix_Bx_1, ix_Bx_2, ix_Bx_3, ix_Bx_m1, ix_Bx_m2, ix_Bx_m3, len_Bx, non_Bx, tp_Rm, sq_Rm, ix_Rm_0, ix_Rm_1, ix_Rm_2, ix_Rm_3, ix_Rm_4, ix_Rm_5, ix_Rm_m1, ix_Rm_m2, ix_Rm_m3, len_Rm, non_Rm, tp_Pd, sq_Pd, ix_Pd_0, ix_Pd_1, ix_Pd_2, ix_Pd_3, ix_Pd_4, ix_Pd_m1, ix_Pd_m2, ix_Pd_m3, len_Pd, non_Pd, tp_Fy, sq_Fy, ix_Fy_0, ix_Fy_1, ix_Fy_2, ix_Fy_3, ix_Fy_m1, ix_Fy_m2, ix_Fy_m3, len_Fy, non_Fy, tp_St, sq_St, ix_St_0, ix_St_1, ix_St_2, ix_St_3, ix_St_m1, ix_St_m2, ix_St_m3, len_St, non_St, tp_Flt, sq_Flt, ix_Flt_0, ix_Flt_1, ix_Flt_2, ix_Flt_3, ix_Flt_4, ix_Flt_m1, ix_Flt_m2, ix_Flt_m3, len_Flt, non_Flt, tp_Ld, ix_Ld_w, ix_Ld_h, ix_Ld_d, ix_Ld_hs, ix_Ld_bar, ix_Ld_peo, ix_Ld_pads, tp_hs, tp_Tk, tp_Row, tp_way, sq_way, len_way, non_Row, reduceIte, if_true, if_false, ite_true, ite_false, if_false_right, if_false_left, decide_eq_true_eq, Bool.not_eq_true', Bool.not_true, Bool.not_false, decide_eq_false_iff_not, Bool.false_eq_true, Bool.true_and, Bool.and_true, Bool.false_and, Bool.and_false, Bool.or_true, Bool.or_false, Bool.false_or, Bool.true_or, reduceCtorEq, true_and, and_true, Int.reduceLT, Int.reduceLE, Int.reducePow, Int.reduceNeg, Int.reduceMul, Int.reduceAdd, Int.reduceSub, Int.reduceToNat, Int.reduceEq, na10, Nat.reducePow, Nat.reduceLT, Nat.reduceLeDiff, Nat.reduceAdd, Nat.reduceSub, true_or, or_true, and_self, decide_true, decide_false, Bool.decide_eq_true, Bool.and_self, Bool.not_not, eq_self, not_true_eq_false, not_false_eq_true, $xs,*] at $h:ident)
local macro_rules | `(tactic| simp_arith [$xs,*]) => `(tactic| repeat (first | with_reducible (refine SKn ?_) | with_reducible (refine SKr ?_) | with_reducible (refine Okc ?_) | with_reducible (refine Okn ?_) | with_reducible (refine FRn ?_) | with_reducible (refine FRr ?_) | with_reducible (refine fr_cons ?_) | with_reducible (refine fr_nil ?_) | simp +decide only [FK_rt, FK_nx, evS, evE, evP, evEs, evQs, evPs, evO, evC, evI, evMs, setAll, ownS, Ok_bind, Ok_map, Ok_some, Ok_none, Ok_ite, getS, peekS, setS, wipeS, orc, permA, keyOf, List.map_cons, List.map_nil, List.cons_append, List.nil_append, List.append_nil, List.replicate, List.length_cons, List.length_nil, List.getElem?_cons_zero, List.getElem?_cons_succ, List.set_cons_zero, List.set_cons_succ, Option.map_some, Option.bind_some, Option.map_none, Option.bind_none, asgT, asgTs, sq_t, sq_l, Ts.len, starD, List.take_succ_cons, List.take_zero, List.drop_succ_cons, List.drop_zero, List.take_nil, List.drop_nil, List.flatten_cons, List.flatten_nil, List.foldl_cons, List.foldl_nil, tp_n, tp_b, tp_i, tp_s, tp_t, tp_l, tp_d, tp_k, tp_c, tp_r0, tp_r1, ix_l, ix_t, ix_k, ix_d, ix_di, at0, at1, at2, at3, at4, at5, at6, at7, atm1, atm2, atm3, b_add, b_sub, b_mul, b_div, b_mod, b_pow, b_addT, b_addL, b_mulL, c_lt, c_le, c_gt, c_ge, c_eq, c_ne, c_eqs, c_nes, c_is, c_isnt, n_n, n_t, n_i, n_l, bl_b, int_i, f_len, f_lenT, f_min, f_max, f_min3, f_max3, f_abs, f_intB, f_int, f_tup, f_tupT, f_lst, f_lstT, f_sum, r_l0, r_l1, ints_map, c_neNil, c_eqNil, c_ne00, sz0, pt0, pt1, pt2, isi_i, isi_t, isi_n, isi_b, isi_l, isi_s, cutT, cutL, cut_to, cut_from, fold_and, fold_or, fold_ite, fold_iteI, fold_iteB, fold_flt, ite_bF, ite_bT, szle, szlt, sm62_i, tp_Bx, sq_Bx, ix_Bx_0, ix_Bx_1, ix_Bx_2, ix_Bx_3, ix_Bx_m1, ix_Bx_m2, ix_Bx_m3, len_Bx, non_Bx, tp_Rm, sq_Rm, ix_Rm_0, ix_Rm_1, ix_Rm_2, ix_Rm_3, ix_Rm_4, ix_Rm_5, ix_Rm_m1, ix_Rm_m2, ix_Rm_m3, len_Rm, non_Rm, tp_Pd, sq_Pd, ix_Pd_0, ix_Pd_1, ix_Pd_2, ix_Pd_3, ix_Pd_4, ix_Pd_m1, ix_Pd_m2, ix_Pd_m3, len_Pd, non_Pd, tp_Fy, sq_Fy, ix_Fy_0, ix_Fy_1, ix_Fy_2, ix_Fy_3, ix_Fy_m1, ix_Fy_m2, ix_Fy_m3, len_Fy, non_Fy, tp_St, sq_St, ix_St_0, ix_St_1, ix_St_2, ix_St_3, ix_St_m1, ix_St_m2, ix_St_m3, len_St, non_St, tp_Flt, sq_Flt, ix_Flt_0, ix_Flt_1, ix_Flt_2, ix_Flt_3, ix_Flt_4, ix_Flt_m1, ix_Flt_m2, ix_Flt_m3, len_Flt, non_Flt, tp_Ld, ix_Ld_w, ix_Ld_h, ix_Ld_d, ix_Ld_hs, ix_Ld_bar, ix_Ld_peo, ix_Ld_pads, tp_hs, tp_Tk, tp_Row, tp_way, sq_way, len_way, non_Row, reduceIte, if_true, if_false, ite_true, ite_false, if_false_right, if_false_left, decide_eq_true_eq, Bool.not_eq_true', Bool.not_true, Bool.not_false, decide_eq_false_iff_not, Bool.false_eq_true, Bool.true_and, Bool.and_true, Bool.false_and, Bool.and_false, Bool.or_true, Bool.or_false, Bool.false_or, Bool.true_or, reduceCtorEq, true_and, and_true, Int.reduceLT, Int.reduceLE, Int.reducePow, Int.reduceNeg, Int.reduceMul, Int.reduceAdd, Int.reduceSub, Int.reduceToNat, Int.reduceEq, na10, Nat.reducePow, Nat.reduceLT, Nat.reduceLeDiff, Nat.reduceAdd, Nat.reduceSub, true_or, or_true, and_self, decide_true, decide_false, Bool.decide_eq_true, Bool.and_self, Bool.not_not, eq_self, not_true_eq_false, not_false_eq_true, $xs,*]))
/-! ### squares, rooms, what hurts -/
def inB (a b c d x y : Int) : Bool := (decide (a ≤ x) && decide (x ≤ c)) && (decide (b ≤ y) && decide (y ≤ d))
def Rm.has (r : Rm) (x y t : Int) : Bool := inB r.a r.b r.c r.d x y && (decide (r.f ≤ t) && decide (t ≤ r.l))
def Rm.near (r : Rm) (x y t : Int) : Bool := inB (r.a - 1) (r.b - 1) (r.c + 1) (r.d + 1) x y && (decide (r.f ≤ t) && decide (t ≤ r.l))
def Pd.has (p : Pd) (x y : Int) : Bool := inB p.a p.b p.c p.d x y
def Bx.has (p : Bx) (x y : Int) : Bool := inB p.a p.b p.c p.d x y
def Land.has (L : Land) (x y : Int) : Bool := (decide (0 ≤ x) && decide (x < L.w)) && (decide (0 ≤ y) && decide (y < L.h))
def Land.hAt (L : Land) (x y : Int) : Int := match L.hs with
  | none => 0
  | some r => (((r[y.toNat]?).getD [])[x.toNat]?).getD 0
def Land.padAt (L : Land) (x y : Int) : Option Nat := L.pads.findIdx? fun p => p.has x y
def padT : Option Nat → D
  | none => .non
  | some k => .int k
def Land.hurts (L : Land) (x y t c : Int) : Option Str :=
  if L.has x y = false then some "out" else if L.hAt x y > c then some "high" else if (L.bar.any fun r => r.has x y t) = true then some "barred" else if (L.peo.any fun r => r.near x y t) = true then some "people" else none
def wordT : Option Str → D
  | none => .non
  | some w => .str w
section
variable {P : Prg} [HasF P Gk37] [HasF P Gk07] [HasF P Gk08] {n i : Nat} {R S : Sto} {w h d x y t m c : Int} {L : Land} {F : Flt} {s b : Int}
theorem has_square_L {a b c e : Int} : callN P (n + 1) 49 [.lst [.int a, .int b, .int c, .int e], .int x, .int y] S = some (.bl (inB a b c e x y), S) := by
  refine eq_of_Ok (Ok_call (f := ⟨3, 8, b49⟩) hf49 rfl ?_)
  unfold b49
  simp_arith only [inB]
theorem has_square_B {b : Bx} : callN P (n + 1) 49 [b.t, .int x, .int y] S = some (.bl (b.has x y), S) := by
  refine eq_of_Ok (Ok_call (f := ⟨3, 8, b49⟩) hf49 rfl ?_)
  unfold b49
  unfold Bx.t
  simp_arith only [inB, Bx.has]
theorem has_square_P {b : Pd} : callN P (n + 1) 49 [b.t, .int x, .int y] S = some (.bl (b.has x y), S) := by
  refine eq_of_Ok (Ok_call (f := ⟨3, 8, b49⟩) hf49 rfl ?_)
  unfold b49
  unfold Pd.t
  simp_arith only [inB, Pd.has]
theorem is_in_T {a b c e f l : Int} : callN P (n + 2) 50 [.tup [.int a, .int b, .int c, .int e, .int f, .int l], .int x, .int y, .int t] S = some (.bl (inB a b c e x y && (decide (f ≤ t) && decide (t ≤ l))), S) := by
  refine eq_of_Ok (Ok_call (f := ⟨4, 7, b50⟩) hf50 rfl ?_)
  unfold b50
  simp_arith only [has_square_L]
theorem is_in_eq {r : Rm} : callN P (n + 2) 50 [r.t, .int x, .int y, .int t] S = some (.bl (r.has x y t), S) := is_in_T
theorem is_beside_eq {r : Rm} : callN P (n + 3) 51 [r.t, .int x, .int y, .int t] S = some (.bl (r.near x y t), S) := by
  refine eq_of_Ok (Ok_call (f := ⟨4, 10, b51⟩) hf51 rfl ?_)
  unfold b51
  unfold Rm.t
  simp_arith only [is_in_T]
  rfl
theorem has_eq (hL : LdAt S i L) : callN P (n + 1) 52 [.ref i, .int x, .int y] S = some (.bl (L.has x y), S) := by
  refine eq_of_Ok (Ok_call (f := ⟨3, 3, b52⟩) hf52 rfl ?_)
  unfold b52
  simp_arith only [refI_is hL, lk_w, lk_h]
  rfl
theorem at_in {α : Type} {l : List α} {k : Int} (h0 : 0 ≤ k) (h1 : k < l.length) : atI l k = l[k.toNat]? := by
  unfold atI ixN
  rw [if_pos h0, if_pos h1]; rfl
theorem ixRow {r : List Int} {k : Int} (h0 : 0 ≤ k) (h1 : k < r.length) : semIx (rowT r) (.int k) = some (.int ((r[k.toNat]?).getD 0)) := by
  show atI (r.map D.int) k = _
  have lt : k.toNat < r.length := by omega
  rw [at_in h0 (by rw [List.length_map]; exact h1), List.getElem?_map, List.getElem?_eq_getElem lt]
  rfl
theorem height_at_eq (hL : LdAt S i L) (ok : L.Ok) (hh : L.has x y = true) : callN P (n + 1) 53 [.ref i, .int x, .int y] S = some (.int (L.hAt x y), S) := by
  unfold Land.has at hh
  simp only [Bool.and_eq_true, decide_eq_true_eq] at hh
  refine eq_of_Ok (Ok_call (f := ⟨3, 3, b53⟩) hf53 rfl ?_)
  unfold b53
  cases e : L.hs with
  | none =>
    have e2 : hsT L.hs = .non := by rw [e]; rfl
    have e3 : L.hAt x y = 0 := by unfold Land.hAt; rw [e]
    simp_arith only [refI_is hL, lk_hs, e2, e3]
  | some r =>
    obtain ⟨l1, l2⟩ := ok.hs r e
    have e2 : hsT L.hs = .tup (r.map rowT) := by rw [e]; rfl
    have lt : y.toNat < r.length := by omega
    have e4 : atI (r.map rowT) y = some (rowT r[y.toNat]) := by
      rw [at_in hh.2.1 (by rw [List.length_map]; omega), List.getElem?_map, List.getElem?_eq_getElem lt]
      rfl
    have l3 := (l2 _ (List.getElem_mem lt)).1
    have e3 : L.hAt x y = ((r[y.toNat])[x.toNat]?).getD 0 := by unfold Land.hAt; rw [e]; simp only; rw [List.getElem?_eq_getElem lt]; rfl
    have tpR : ∀ {l : List Int}, top S (rowT l) = rowT l := rfl
    simp_arith only [refI_is hL, lk_hs, e2, e3, e4, tpR, ixRow hh.1.1 (show x < (r[y.toNat]).length by omega)]
theorem flt_none {α : Type} {p : α → Bool} : ∀ {xs : List α} {k : Nat}, xs.findIdx? p = none → (xs.zipIdx k).filter (fun q => p q.1) = []
  | [], _, _ => rfl
  | x :: xs, k, h => by
    rw [List.findIdx?_cons] at h
    split at h
    · cases h
    · rename_i hp
      rw [List.zipIdx_cons, List.filter_cons_of_neg (by simpa using hp)]
      exact flt_none (xs := xs) (by simpa using h)
theorem flt_some {α : Type} {p : α → Bool} : ∀ {xs : List α} {k j : Nat}, xs.findIdx? p = some j → ∃ r : List Nat, ((xs.zipIdx k).filter (fun q => p q.1)).map (fun q => q.2) = (k + j) :: r
  | [], _, _, h => by cases h
  | x :: xs, k, j, h => by
    rw [List.findIdx?_cons] at h
    split at h
    · rename_i hp
      cases h
      rw [List.zipIdx_cons, List.filter_cons_of_pos (by simpa using hp), List.map_cons]
      exact ⟨_, rfl⟩
    · rename_i hp
      obtain ⟨i, e, rfl⟩ := Option.map_eq_some_iff.mp h
      obtain ⟨r, hr⟩ := flt_some (xs := xs) (k := k + 1) e
      rw [List.zipIdx_cons, List.filter_cons_of_neg (by simpa using hp), hr]
      exact ⟨r, by congr 1; omega⟩
theorem pad_at_eq (hL : LdAt S i L) (ok : L.Ok) : callN P (n + 2) 54 [.ref i, .int x, .int y] S = some (padT (L.padAt x y), S) := by
  have dl := ok.dl
  refine eq_of_Ok (Ok_call (f := ⟨3, 6, b54⟩) hf54 rfl ?_)
  unfold b54
  simp_arith [refI_is hL, lk_pads, enum_map]
  rw [lc_flt (g := fun q : Pd × Nat => D.int (q.2 : Nat)) (p := fun q => q.1.has x y) (by simp [sizeLine]; omega) fun q _ => by simp_arith only [has_square_P]]
  have e0 : ∀ l : List (Pd × Nat), l.map (fun q => D.int (q.2 : Nat)) = ((l.map fun q => q.2).map fun k : Nat => (k : Int)).map D.int := fun l => by simp
  rw [e0]
  cases e : L.pads.findIdx? fun p => p.has x y with
  | none =>
    have e1 := flt_none (k := 0) e
    have e2 : L.padAt x y = none := e
    rw [e1, e2]
    simp_arith []
    rfl
  | some j =>
    obtain ⟨r, e1⟩ := flt_some (k := 0) e
    have e2 : L.padAt x y = some j := e
    rw [e1, e2]
    have e3 : ∀ ns : List Int, ∀ k : Int, semCmp .NotEq (.lst (.int k :: ns.map D.int)) (.lst []) = some true := fun ns k => c_neNil (k :: ns)
    rw [Nat.zero_add]
    simp_arith [e3]
    rfl
theorem tp_pad {o : Option Nat} : top S (padT o) = padT o := by cases o <;> rfl
theorem pad_none {o : Option Nat} : isNon (padT o) = o.isNone := by cases o <;> rfl
theorem c_pad {o : Option Nat} {k : Int} : semCmp .Eq (padT o) (.int k) = some (decide (o.map (fun j => (j : Int)) = some k)) := by
  cases o with
  | none => rfl
  | some j =>
    show some (decide ((j : Int) = k)) = _
    simp
theorem any_bar {rs : List Rm} (hl : rs.length ≤ 8) {f : D → Sto → Option (Option D × Sto)} {p : Rm → Bool} (hf : ∀ r ∈ rs, f r.t S = some (some (.bl (p r)), S)) : lcGo f (rs.map Rm.t) [] S = some (rs.map fun r => .bl (p r), S) := lc_map (enc := Rm.t) (by simp [sizeLine]; omega) hf
theorem hurts_eq (hL : LdAt S i L) (ok : L.Ok) : callN P (n + 4) 55 [.ref i, .int x, .int y, .int t, .int c] S = some (wordT (L.hurts x y t c), S) := by
  refine eq_of_Ok (Ok_call (f := ⟨5, 6, b55⟩) hf55 rfl ?_)
  unfold b55
  have n1 : ∀ {m : Str} {fs : List (Str × D)}, fs.lookup m = none → ((match fs.lookup m with | none => (1 : Nat) | some _ => 0) = 1) := fun h => by rw [h]
  have f1 : L.fs.lookup ("has" : Str) = none := rfl
  have f2 : L.fs.lookup ("height_at" : Str) = none := rfl
  unfold Land.hurts
  cases c1 : L.has x y with
  | false =>
    simp_arith [refI_is hL, f1, has_eq hL, c1]
    rfl
  | true =>
    by_cases c2 : L.hAt x y > c
    · simp_arith [refI_is hL, f1, f2, has_eq hL, c1, height_at_eq hL ok c1, c2]
      rfl
    · simp_arith [refI_is hL, f1, f2, has_eq hL, c1, height_at_eq hL ok c1, c2, lk_bar]
      rw [any_bar ok.bl (p := fun r => r.has x y t) fun r _ => by simp_arith only [is_in_eq]]
      cases c3 : (L.bar.any fun r => r.has x y t) with
      | true =>
        simp_arith [f_any, c3]
        rfl
      | false =>
        simp_arith [f_any, c3, refI_is hL, lk_peo]
        rw [any_bar ok.pl (p := fun r => r.near x y t) fun r _ => by simp_arith only [is_beside_eq]]
        cases c4 : (L.peo.any fun r => r.near x y t) with
        | true =>
          simp_arith [f_any, c4]
          rfl
        | false =>
          simp_arith [f_any, c4]
          rfl
end
end Wf
-- ENC2
set_option Elab.async false
set_option linter.all false
set_option maxRecDepth 100000
namespace Wf
open PySem L2
local macro_rules | `(tactic| simp_arith only [$xs,*]) => `(tactic| simp +decide only [Ok_cons, Ok_nil, SK_nx, SK_rt, FK_rt, FK_nx, evS, evE, evP, evEs, evQs, evPs, evO, evC, evI, evMs, setAll, ownS, Ok_bind, Ok_map, Ok_some, Ok_none, Ok_ite, getS, peekS, setS, wipeS, orc, permA, keyOf, List.map_cons, List.map_nil, List.cons_append, List.nil_append, List.append_nil, List.replicate, List.length_cons, List.length_nil, List.getElem?_cons_zero, List.getElem?_cons_succ, List.set_cons_zero, List.set_cons_succ, Option.map_some, Option.bind_some, Option.map_none, Option.bind_none, asgT, asgTs, sq_t, sq_l, Ts.len, starD, List.take_succ_cons, List.take_zero, List.drop_succ_cons, List.drop_zero, List.take_nil, List.drop_nil, List.flatten_cons, List.flatten_nil, List.foldl_cons, List.foldl_nil, tp_n, tp_b, tp_i, tp_s, tp_t, tp_l, tp_d, tp_k, tp_c, tp_r0, tp_r1, ix_l, ix_t, ix_k, ix_d, ix_di, at0, at1, at2, at3, at4, at5, at6, at7, atm1, atm2, atm3, b_add, b_sub, b_mul, b_div, b_mod, b_pow, b_addT, b_addL, b_mulL, c_lt, c_le, c_gt, c_ge, c_eq, c_ne, c_eqs, c_nes, c_is, c_isnt, n_n, n_t, n_i, n_l, bl_b, int_i, f_len, f_lenT, f_min, f_max, f_min3, f_max3, f_abs, f_intB, f_int, f_tup, f_tupT, f_lst, f_lstT, f_sum, r_l0, r_l1, ints_map, c_neNil, c_eqNil, c_ne00, sz0, pt0, pt1, pt2, isi_i, isi_t, isi_n, isi_b, isi_l, isi_s, cutT, cutL, cut_to, cut_from, fold_and, fold_or, fold_ite, fold_iteI, fold_iteB, fold_flt, ite_bF, ite_bT, szle, szlt, sm62_i, tp_Bx, sq_Bx, ix_Bx_0, ix_Bx_1, ix_Bx_2, ix_Bx_3, ix_Bx_m1, ix_Bx_m2, ix_Bx_m3, len_Bx, non_Bx, tp_Rm, sq_Rm, ix_Rm_0, ix_Rm_1, ix_Rm_2, ix_Rm_3, ix_Rm_4, ix_Rm_5, ix_Rm_m1, ix_Rm_m2, ix_Rm_m3, len_Rm, non_Rm, tp_Pd, sq_Pd, ix_Pd_0, ix_Pd_1, ix_Pd_2, ix_Pd_3, ix_Pd_4, ix_Pd_m1, ix_Pd_m2, ix_Pd_m3, len_Pd, non_Pd, tp_Fy, sq_Fy, ix_Fy_0, ix_Fy_1, ix_Fy_2, ix_Fy_3, ix_Fy_m1, ix_Fy_m2, ix_Fy_m3, len_Fy, non_Fy, tp_St, sq_St, ix_St_0, ix_St_1, ix_St_2, ix_St_3, ix_St_m1, ix_St_m2, ix_St_m3, len_St, non_St, tp_Flt, sq_Flt, ix_Flt_0, ix_Flt_1, ix_Flt_2, ix_Flt_3, ix_Flt_4, ix_Flt_m1, ix_Flt_m2, ix_Flt_m3, len_Flt, non_Flt, tp_Ld, ix_Ld_w, ix_Ld_h, ix_Ld_d, ix_Ld_hs, ix_Ld_bar, ix_Ld_peo, ix_Ld_pads, tp_hs, tp_Tk, tp_Row, tp_way, sq_way, len_way, non_Row, reduceIte, if_true, if_false, ite_true, ite_false, if_false_right, if_false_left, decide_eq_true_eq, Bool.not_eq_true', Bool.not_true, Bool.not_false, decide_eq_false_iff_not, Bool.false_eq_true, Bool.true_and, Bool.and_true, Bool.false_and, Bool.and_false, Bool.or_true, Bool.or_false, Bool.false_or, Bool.true_or, reduceCtorEq, true_and, and_true, Int.reduceLT, Int.reduceLE, Int.reducePow, Int.reduceNeg, Int.reduceMul, Int.reduceAdd, Int.reduceSub, Int.reduceToNat, Int.reduceEq, na10, Nat.reducePow, Nat.reduceLT, Nat.reduceLeDiff, Nat.reduceAdd, Nat.reduceSub, true_or, or_true, and_self, decide_true, decide_false, Bool.decide_eq_true, Bool.and_self, Bool.not_not, eq_self, not_true_eq_false, not_false_eq_true, $xs,*])
local macro_rules | `(tactic| simp_arith only [$xs,*] at $h:ident) => `(tactic| simp +decide only [Ok_cons, Ok_nil, SK_nx, SK_rt, FK_rt, FK_nx, evS, evE, evP, evEs, evQs, evPs, evO, evC, evI, evMs, setAll, ownS, Ok_bind, Ok_map, Ok_some, Ok_none, Ok_ite, getS, peekS, setS, wipeS, orc, permA, keyOf, List.map_cons, List.map_nil, List.cons_append, List.nil_append, List.append_nil, List.replicate, List.length_cons, List.length_nil, List.getElem?_cons_zero, List.getElem?_cons_succ, List.set_cons_zero, List.set_cons_succ, Option.map_some, Option.bind_some, Option.map_none, Option.bind_none, asgT, asgTs, sq_t, sq_l, Ts.len, starD, List.take_succ_cons, List.take_zero, List.drop_succ_cons, List.drop_zero, List.take_nil, List.drop_nil, List.flatten_cons, List.flatten_nil, List.foldl_cons, List.foldl_nil, tp_n, tp_b, tp_i, tp_s, tp_t, tp_l, tp_d, tp_k, tp_c, tp_r0, tp_r1, ix_l, ix_t, ix_k, ix_d, ix_di, at0, at1, at2, at3, at4, at5, at6, at7, atm1, atm2, atm3, b_add, b_sub, b_mul, b_div, b_mod, b_pow, b_addT, b_addL, b_mulL, c_lt, c_le, c_gt, c_ge, c_eq, c_ne, c_eqs, c_nes, c_is, c_isnt, n_n, n_t, n_i, n_l, bl_b, int_i, f_len, f_lenT, f_min, f_max, f_min3, f_max3, f_abs, f_intB, f_int, f_tup, f_tupT, f_lst, f_lstT, f_sum, r_l0, r_l1, ints_map, c_neNil, c_eqNil, c_ne00, sz0, pt0, pt1, pt2, isi_i, isi_t, isi_n, isi_b, isi_l, isi_s, cutT, cutL, cut_to, cut_from, fold_and, fold_or, fold_ite, fold_iteI, fold_iteB, fold_flt, ite_bF, ite_bT, szle, szlt, sm62_i, tp_Bx, sq_Bx, ix_Bx_0, ix_Bx_1, ix_Bx_2, ix_Bx_3, ix_Bx_m1, ix_Bx_m2, ix_Bx_m3, len_Bx, non_Bx, tp_Rm, sq_Rm, ix_Rm_0, ix_Rm_1, ix_Rm_2, ix_Rm_3, ix_Rm_4, ix_Rm_5, ix_Rm_m1, ix_Rm_m2, ix_Rm_m3, len_Rm, non_Rm, tp_Pd, sq_Pd, ix_Pd_0, ix_Pd_1, ix_Pd_2, ix_Pd_3, ix_Pd_4, ix_Pd_m1, ix_Pd_m2, ix_Pd_m3, len_Pd, non_Pd, tp_Fy, sq_Fy, ix_Fy_0, ix_Fy_1, ix_Fy_2, ix_Fy_3, ix_Fy_m1, ix_Fy_m2, ix_Fy_m3, len_Fy, non_Fy, tp_St, sq_St, ix_St_0, ix_St_1, ix_St_2, ix_St_3, ix_St_m1, ix_St_m2, ix_St_m3, len_St, non_St, tp_Flt, sq_Flt, ix_Flt_0, ix_Flt_1, ix_Flt_2, ix_Flt_3, ix_Flt_4, ix_Flt_m1, ix_Flt_m2, ix_Flt_m3, len_Flt, non_Flt, tp_Ld, ix_Ld_w, ix_Ld_h, ix_Ld_d, ix_Ld_hs, ix_Ld_bar, ix_Ld_peo, ix_Ld_pads, tp_hs, tp_Tk, tp_Row, tp_way, sq_way, len_way, non_Row, reduceIte, if_true, if_false, ite_true, ite_false, if_false_right, if_false_left, decide_eq_true_eq, Bool.not_eq_true', Bool.not_true, Bool.not_false, decide_eq_false_iff_not, Bool.false_eq_true, Bool.true_and, Bool.and_true, Bool.false_and, Bool.and_false, Bool.or_true, Bool.or_false, Bool.false_or, Bool.true_or, reduceCtorEq, true_and, and_true, Int.reduceLT, Int.reduceLE, Int.reducePow, Int.reduceNeg, Int.reduceMul, Int.reduceAdd, Int.reduceSub, Int.reduceToNat, Int.reduceEq, na10, Nat.reducePow, Nat.reduceLT, Nat.reduceLeDiff, Nat.reduceAdd, Nat.reduceSub, true_or, or_true, and_self, decide_true, decide_false, Bool.decide_eq_true, Bool.and_self, Bool.not_not, eq_self, not_true_eq_false, not_false_eq_true, $xs,*] at $h:ident)
local macro_rules | `(tactic| simp_arith [$xs,*]) => `(tactic| repeat (first | with_reducible (refine SKn ?_) | with_reducible (refine SKr ?_) | with_reducible (refine Okc ?_) | with_reducible (refine Okn ?_) | with_reducible (refine FRn ?_) | with_reducible (refine FRr ?_) | with_reducible (refine fr_cons ?_) | with_reducible (refine fr_nil ?_) | simp +decide only [FK_rt, FK_nx, evS, evE, evP, evEs, evQs, evPs, evO, evC, evI, evMs, setAll, ownS, Ok_bind, Ok_map, Ok_some, Ok_none, Ok_ite, getS, peekS, setS, wipeS, orc, permA, keyOf, List.map_cons, List.map_nil, List.cons_append, List.nil_append, List.append_nil, List.replicate, List.length_cons, List.length_nil, List.getElem?_cons_zero, List.getElem?_cons_succ, List.set_cons_zero, List.set_cons_succ, Option.map_some, Option.bind_some, Option.map_none, Option.bind_none, asgT, asgTs, sq_t, sq_l, Ts.len, starD, List.take_succ_cons, List.take_zero, List.drop_succ_cons, List.drop_zero, List.take_nil, List.drop_nil, List.flatten_cons, List.flatten_nil, List.foldl_cons, List.foldl_nil, tp_n, tp_b, tp_i, tp_s, tp_t, tp_l, tp_d, tp_k, tp_c, tp_r0, tp_r1, ix_l, ix_t, ix_k, ix_d, ix_di, at0, at1, at2, at3, at4, at5, at6, at7, atm1, atm2, atm3, b_add, b_sub, b_mul, b_div, b_mod, b_pow, b_addT, b_addL, b_mulL, c_lt, c_le, c_gt, c_ge, c_eq, c_ne, c_eqs, c_nes, c_is, c_isnt, n_n, n_t, n_i, n_l, bl_b, int_i, f_len, f_lenT, f_min, f_max, f_min3, f_max3, f_abs, f_intB, f_int, f_tup, f_tupT, f_lst, f_lstT, f_sum, r_l0, r_l1, ints_map, c_neNil, c_eqNil, c_ne00, sz0, pt0, pt1, pt2, isi_i, isi_t, isi_n, isi_b, isi_l, isi_s, cutT, cutL, cut_to, cut_from, fold_and, fold_or, fold_ite, fold_iteI, fold_iteB, fold_flt, ite_bF, ite_bT, szle, szlt, sm62_i, tp_Bx, sq_Bx, ix_Bx_0, ix_Bx_1, ix_Bx_2, ix_Bx_3, ix_Bx_m1, ix_Bx_m2, ix_Bx_m3, len_Bx, non_Bx, tp_Rm, sq_Rm, ix_Rm_0, ix_Rm_1, ix_Rm_2, ix_Rm_3, ix_Rm_4, ix_Rm_5, ix_Rm_m1, ix_Rm_m2, ix_Rm_m3, len_Rm, non_Rm, tp_Pd, sq_Pd, ix_Pd_0, ix_Pd_1, ix_Pd_2, ix_Pd_3, ix_Pd_4, ix_Pd_m1, ix_Pd_m2, ix_Pd_m3, len_Pd, non_Pd, tp_Fy, sq_Fy, ix_Fy_0, ix_Fy_1, ix_Fy_2, ix_Fy_3, ix_Fy_m1, ix_Fy_m2, ix_Fy_m3, len_Fy, non_Fy, tp_St, sq_St, ix_St_0, ix_St_1, ix_St_2, ix_St_3, ix_St_m1, ix_St_m2, ix_St_m3, len_St, non_St, tp_Flt, sq_Flt, ix_Flt_0, ix_Flt_1, ix_Flt_2, ix_Flt_3, ix_Flt_4, ix_Flt_m1, ix_Flt_m2, ix_Flt_m3, len_Flt, non_Flt, tp_Ld, ix_Ld_w, ix_Ld_h, ix_Ld_d, ix_Ld_hs, ix_Ld_bar, ix_Ld_peo, ix_Ld_pads, tp_hs, tp_Tk, tp_Row, tp_way, sq_way, len_way, non_Row, reduceIte, if_true, if_false, ite_true, ite_false, if_false_right, if_false_left, decide_eq_true_eq, Bool.not_eq_true', Bool.not_true, Bool.not_false, decide_eq_false_iff_not, Bool.false_eq_true, Bool.true_and, Bool.and_true, Bool.false_and, Bool.and_false, Bool.or_true, Bool.or_false, Bool.false_or, Bool.true_or, reduceCtorEq, true_and, and_true, Int.reduceLT, Int.reduceLE, Int.reducePow, Int.reduceNeg, Int.reduceMul, Int.reduceAdd, Int.reduceSub, Int.reduceToNat, Int.reduceEq, na10, Nat.reducePow, Nat.reduceLT, Nat.reduceLeDiff, Nat.reduceAdd, Nat.reduceSub, true_or, or_true, and_self, decide_true, decide_false, Bool.decide_eq_true, Bool.and_self, Bool.not_not, eq_self, not_true_eq_false, not_false_eq_true, $xs,*]))
/-! ### tasks -/
def inH (f l t : Int) : Bool := decide (f ≤ t) && decide (t ≤ l)
def stepF : Tk → Int → Int → Int → Int → Int
  | .no, s, _, _, _ => s
  | .look b f l, s, x, y, h => if s = 1 then s else if (inH f l h && b.has x y) = true then s + 1 else s
  | .bring b o _ f l, s, x, y, h => if s = 2 then s else if (inH f l h && (if s = 1 then o else b).has x y) = true then s + 1 else s
  | .over b n f l, s, x, y, h => if s = n then s else if (inH f l h && b.has x y) = true then s + 1 else 0
def loadF : Tk → Int → Int
  | .bring _ _ n _ _, s => if s = 1 then n else 0
  | _, _ => 0
/-- where a beat leads, ahead of what hurts -/
structure Th where
  x : Int
  y : Int
  c : Int
def Th.t (x : Th) : D := .tup [.int x.x, .int x.y, .int x.c]
/-- what a beat tells: the state behind, or a word -/
inductive Out where
  | st (s : St) | br (w : Str)
def Out.t : Out → D
  | .st s => .tup [s.t, .non]
  | .br w => .tup [.non, .str w]
section
variable {P : Prg} [HasF P Gk37] [HasF P Gk07] [HasF P Gk08] {n i : Nat} {R S : Sto} {w h d x y t m c : Int} {L : Land} {F : Flt} {s b : Int} {k : Tk}
theorem last_step_eq : callN P (n + 1) 56 [k.t] S = some (.int (lastF k), S) := by
  refine eq_of_Ok (Ok_call (f := ⟨1, 1, b56⟩) hf56 rfl ?_)
  unfold b56
  cases k <;> unfold Tk.t
  all_goals simp_arith []
  all_goals first | rfl | exact Ok_is rfl rfl
def boxF : Tk → Int → Bx
  | .no, _ => ⟨0, 0, 0, 0⟩
  | .look b _ _, _ => b
  | .bring b o _ _ _, s => if s = 1 then o else b
  | .over b _ _ _, _ => b
theorem iteBx {c : Prop} [Decidable c] {a b : Bx} : (if c then a.t else b.t) = (if c then a else b).t := by split <;> rfl
theorem box_for_eq (hk : k ≠ .no) : callN P (n + 1) 57 [k.t, .int s] S = some ((boxF k s).t, S) := by
  refine eq_of_Ok (Ok_call (f := ⟨2, 2, b57⟩) hf57 rfl ?_)
  unfold b57
  cases k with
  | no => exact absurd rfl hk
  | look b f l => unfold Tk.t; simp_arith []; rfl
  | over b n f l => unfold Tk.t; simp_arith []; rfl
  | bring b o n f l => unfold Tk.t; simp_arith [iteBx]; rfl
theorem load_of_eq : callN P (n + 1) 59 [k.t, .int s] S = some (.int (loadF k s), S) := by
  refine eq_of_Ok (Ok_call (f := ⟨2, 2, b59⟩) hf59 rfl ?_)
  unfold b59
  cases k with
  | bring b o n f l =>
    unfold Tk.t
    by_cases hs : s = 1
    · simp_arith [hs, loadF]
    · simp_arith [hs, loadF]
  | _ => unfold Tk.t; simp_arith [loadF]
theorem step_by_eq : callN P (n + 2) 58 [k.t, .int s, .int x, .int y, .int t] S = some (.int (stepF k s x y t), S) := by
  refine eq_of_Ok (Ok_call (f := ⟨5, 8, b58⟩) hf58 rfl ?_)
  unfold b58
  cases k with
  | no => unfold Tk.t; simp_arith [stepF]
  | look b f l =>
    have e1 := last_step_eq (P := P) (n := n) (S := S) (k := .look b f l)
    have e2 := box_for_eq (P := P) (n := n) (S := S) (k := .look b f l) (s := s) (by intro z; cases z)
    unfold Tk.t at e1 e2 ⊢
    unfold stepF
    by_cases hs : s = 1
    · simp_arith [e1, lastF, hs]
    · have e3 : boxF (.look b f l) s = b := rfl
      simp_arith [e1, lastF, hs, e2, e3, has_square_B]
      cases c : (inH f l t && b.has x y) <;> unfold inH at c <;> simp_arith [c]
  | bring b o m f l =>
    have e1 := last_step_eq (P := P) (n := n) (S := S) (k := .bring b o m f l)
    have e2 := box_for_eq (P := P) (n := n) (S := S) (k := .bring b o m f l) (s := s) (by intro z; cases z)
    unfold Tk.t at e1 e2 ⊢
    unfold stepF
    by_cases hs : s = 2
    · simp_arith [e1, lastF, hs]
    · have e3 : boxF (.bring b o m f l) s = if s = 1 then o else b := rfl
      simp_arith [e1, lastF, hs, e2, e3, has_square_B]
      cases c : (inH f l t && (if s = 1 then o else b).has x y) <;> unfold inH at c <;> simp_arith [c]
  | over b m f l =>
    have e1 := last_step_eq (P := P) (n := n) (S := S) (k := .over b m f l)
    have e2 := box_for_eq (P := P) (n := n) (S := S) (k := .over b m f l) (s := s) (by intro z; cases z)
    unfold Tk.t at e1 e2 ⊢
    unfold stepF
    by_cases hs : s = m
    · simp_arith [e1, lastF, hs]
    · have e3 : boxF (.over b m f l) s = b := rfl
      simp_arith [e1, lastF, hs, e2, e3, has_square_B]
      cases c : (inH f l t && b.has x y) <;> unfold inH at c <;> simp_arith [c]
/-! ### a beat -/
def stands (L : Land) (F : Flt) (r : Row) (x y : Int) : Bool := match r with
  | .stand => true
  | .home => decide ((L.padAt x y).map (fun j => (j : Int)) = some F.home)
  | _ => false
theorem is_standing_eq {r : Row} (hL : LdAt S i L) (ok : L.Ok) : callN P (n + 3) 60 [.ref i, F.t, r.t, .int x, .int y] S = some (.bl (stands L F r x y), S) := by
  have f1 : L.fs.lookup ("pad_at" : Str) = none := rfl
  have e := c_home (r := r)
  refine eq_of_Ok (Ok_call (f := ⟨5, 5, b60⟩) hf60 rfl ?_)
  unfold b60
  cases r with
  | go a b => unfold Row.t at e ⊢; simp_arith [e, stands]
  | aim a b => unfold Row.t at e ⊢; simp_arith [e, stands]
  | stand => unfold Row.t at e ⊢; simp_arith [e, stands]
  | home => unfold Row.t at e ⊢; simp_arith [e, stands, refI_is hL, f1, pad_at_eq hL ok, tp_pad, c_pad]
def absZ (i : Int) : Int := if i < 0 then -i else i
def agn (a b : Int) : Int := if a * b < 0 then 1 else 0
def costF (k : Tk) (s a b wx wy : Int) : Int := 1 + absZ a + absZ b + (agn a wx + agn b wy) + loadF k s
def Sm2 (i : Int) : Prop := -100 ≤ i ∧ i ≤ 100
theorem cost_of_eq {a b wx wy : Int} (ha : Sm2 a) (hb : Sm2 b) (hx : Sm2 wx) (hy : Sm2 wy) : callN P (n + 2) 61 [k.t, .int s, .tup [.int a, .int b], .tup [.int wx, .int wy]] S = some (.int (costF k s a b wx wy), S) := by
  obtain ⟨a0, a1⟩ := ha
  obtain ⟨b0, b1⟩ := hb
  have m1 : (-(2 ^ 64) < a ∧ a < 2 ^ 64) ∨ (-(2 ^ 64) < wx ∧ wx < 2 ^ 64) := .inl ⟨by omega, by omega⟩
  have m2 : (-(2 ^ 64) < b ∧ b < 2 ^ 64) ∨ (-(2 ^ 64) < wy ∧ wy < 2 ^ 64) := .inl ⟨by omega, by omega⟩
  refine eq_of_Ok (Ok_call (f := ⟨4, 7, b61⟩) hf61 rfl ?_)
  unfold b61
  by_cases c1 : a * wx < 0 <;> by_cases c2 : b * wy < 0
  all_goals simp_arith [zipD, lcGo_cons, lcGo_nil, m1, m2, c1, c2, load_of_eq]
  all_goals refine ⟨.inl ⟨by omega, by omega⟩, .inl ⟨by omega, by omega⟩, ?_⟩
  all_goals simp_arith [load_of_eq]
  all_goals simp only [costF, absZ, agn, c1, c2, if_true, if_false]
  all_goals rfl
def carF (L : Land) (F : Flt) (r : Row) (s : St) (wx wy : Int) : Option Th :=
  if stands L F r s.x s.y = true then (match L.padAt s.x s.y with
    | none => none
    | some _ => some ⟨s.x, s.y, if s.c + F.fy.g < F.fy.f then s.c + F.fy.g else F.fy.f⟩)
  else some ⟨s.x + wishX L F r s.x + wx, s.y + wishY L F r s.y + wy, s.c - costF F.task s.s (wishX L F r s.x) (wishY L F r s.y) wx wy⟩
def carT : Option Th → D
  | none => .non
  | some x => x.t
theorem clip_sm2 {r v : Int} (r0 : 0 ≤ r) (r1 : r ≤ 2) : Sm2 (clipR r v) := by
  unfold clipR Sm2
  split <;> (try split) <;> omega
theorem carried_eq {r : Row} {q : St} {wx wy : Int} (hL : LdAt S i L) (ok : L.Ok) (hF : FltOk L F) (hx : Sm2 wx) (hy : Sm2 wy) : callN P (n + 4) 62 [.ref i, F.t, r.t, q.t, .tup [.int wx, .int wy]] S = some (carT (carF L F r q wx wy), S) := by
  have f1 : L.fs.lookup ("pad_at" : Str) = none := rfl
  refine eq_of_Ok (Ok_call (f := ⟨5, 15, b62⟩) hf62 rfl ?_)
  unfold b62
  unfold carF
  cases c1 : stands L F r q.x q.y with
  | true =>
    cases c2 : L.padAt q.x q.y with
    | none =>
      simp_arith [is_standing_eq hL ok, c1, refI_is hL, f1, pad_at_eq hL ok, tp_pad, pad_none, c2, padT]
      rfl
    | some j =>
      simp_arith [is_standing_eq hL ok, c1, refI_is hL, f1, pad_at_eq hL ok, tp_pad, pad_none, c2, padT]
      rfl
  | false =>
    have hr : r ≠ .stand := fun z => by rw [z] at c1; cases c1
    have e1 := wish_of_eq (P := P) (n := n + 1) (S := S) (x := q.x) (y := q.y) hL hr hF.h0 hF.h1
    have e2 := cost_of_eq (P := P) (n := n + 1) (S := S) (k := F.task) (s := q.s) (a := wishX L F r q.x) (b := wishY L F r q.y) (wx := wx) (wy := wy) (clip_sm2 hF.fy.r0 hF.fy.r1) (clip_sm2 hF.fy.r0 hF.fy.r1) hx hy
    unfold wishT at e1
    simp_arith [is_standing_eq hL ok, c1, e1, e2]
    rfl
def arrF (L : Land) (F : Flt) (b s : Int) (th : Th) : Out := match L.hurts th.x th.y b F.fy.c with
  | some w => .br w
  | none => .st ⟨th.x, th.y, stepF F.task s th.x th.y b, th.c⟩
theorem tp_word {o : Option Str} : top S (wordT o) = wordT o := by cases o <;> rfl
theorem arrived_eq {th : Th} (hL : LdAt S i L) (ok : L.Ok) : callN P (n + 5) 63 [.ref i, F.t, .int b, .int s, th.t] S = some ((arrF L F b s th).t, S) := by
  have f1 : L.fs.lookup ("hurts" : Str) = none := rfl
  refine eq_of_Ok (Ok_call (f := ⟨5, 9, b63⟩) hf63 rfl ?_)
  unfold b63
  unfold arrF Th.t
  cases c : L.hurts th.x th.y b F.fy.c with
  | some w =>
    have ns : isNon (.str w) = false := rfl
    simp_arith [refI_is hL, f1, hurts_eq hL ok, tp_word, c, wordT, ns]
    rfl
  | none =>
    simp_arith [refI_is hL, f1, hurts_eq hL ok, tp_word, c, wordT, step_by_eq]
    rfl
def beatF (L : Land) (F : Flt) (r : Row) (b : Int) (q : St) (wx wy : Int) : Out := match carF L F r q wx wy with
  | none => .br "nopad"
  | some th => if th.c < 0 then .br "empty" else arrF L F (b + 1) q.s th
theorem beat_done_eq {r : Row} {q : St} {wx wy : Int} (hL : LdAt S i L) (ok : L.Ok) (hF : FltOk L F) (hx : Sm2 wx) (hy : Sm2 wy) : callN P (n + 6) 64 [.ref i, F.t, r.t, .int b, q.t, .tup [.int wx, .int wy]] S = some ((beatF L F r b q wx wy).t, S) := by
  refine eq_of_Ok (Ok_call (f := ⟨6, 7, b64⟩) hf64 rfl ?_)
  unfold b64
  unfold beatF
  cases c : carF L F r q wx wy with
  | none =>
    simp_arith [carried_eq hL ok hF hx hy, c, carT]
    rfl
  | some th =>
    have e0 : ∀ S : Sto, top S th.t = th.t := fun S => rfl
    have e1 : isNon th.t = false := rfl
    have e2 : semIx th.t (.int 2) = some (.int th.c) := rfl
    by_cases c2 : th.c < 0
    · simp_arith [carried_eq hL ok hF hx hy, c, carT, e0, e1, e2, c2]
      rfl
    · simp_arith [carried_eq hL ok hF hx hy, c, carT, e0, e1, e2, c2, arrived_eq hL ok]
end
end Wf
-- ENC2
set_option Elab.async false
set_option linter.all false
set_option maxRecDepth 100000
namespace Wf
open PySem L2
local macro_rules | `(tactic| simp_arith only [$xs,*]) => `(tactic| simp +decide only [Ok_cons, Ok_nil, SK_nx, SK_rt, FK_rt, FK_nx, evS, evE, evP, evEs, evQs, evPs, evO, evC, evI, evMs, setAll, ownS, Ok_bind, Ok_map, Ok_some, Ok_none, Ok_ite, getS, peekS, setS, wipeS, orc, permA, keyOf, List.map_cons, List.map_nil, List.cons_append, List.nil_append, List.append_nil, List.replicate, List.length_cons, List.length_nil, List.getElem?_cons_zero, List.getElem?_cons_succ, List.set_cons_zero, List.set_cons_succ, Option.map_some, Option.bind_some, Option.map_none, Option.bind_none, asgT, asgTs, sq_t, sq_l, Ts.len, starD, List.take_succ_cons, List.take_zero, List.drop_succ_cons, List.drop_zero, List.take_nil, List.drop_nil, List.flatten_cons, List.flatten_nil, List.foldl_cons, List.foldl_nil, tp_n, tp_b, tp_i, tp_s, tp_t, tp_l, tp_d, tp_k, tp_c, tp_r0, tp_r1, ix_l, ix_t, ix_k, ix_d, ix_di, at0, at1, at2, at3, at4, at5, at6, at7, atm1, atm2, atm3, b_add, b_sub, b_mul, b_div, b_mod, b_pow, b_addT, b_addL, b_mulL, c_lt, c_le, c_gt, c_ge, c_eq, c_ne, c_eqs, c_nes, c_is, c_isnt, n_n, n_t, n_i, n_l, bl_b, int_i, f_len, f_lenT, f_min, f_max, f_min3, f_max3, f_abs, f_intB, f_int, f_tup, f_tupT, f_lst, f_lstT, f_sum, r_l0, r_l1, ints_map, c_neNil, c_eqNil, c_ne00, sz0, pt0, pt1, pt2, isi_i, isi_t, isi_n, isi_b, isi_l, isi_s, cutT, cutL, cut_to, cut_from, fold_and, fold_or, fold_ite, fold_iteI, fold_iteB, fold_flt, ite_bF, ite_bT, szle, szlt, sm62_i, tp_Bx, sq_Bx, ix_Bx_0, ix_Bx_1, ix_Bx_2, ix_Bx_3, ix_Bx_m1, ix_Bx_m2, ix_Bx_m3, len_Bx, non_Bx, tp_Rm, sq_Rm, ix_Rm_0, ix_Rm_1, ix_Rm_2, ix_Rm_3, ix_Rm_4, ix_Rm_5, ix_Rm_m1, ix_Rm_m2, ix_Rm_m3, len_Rm, non_Rm, tp_Pd, sq_Pd, ix_Pd_0, ix_Pd_1, ix_Pd_2, ix_Pd_3, ix_Pd_4, ix_Pd_m1, ix_Pd_m2, ix_Pd_m3, len_Pd, non_Pd, tp_Fy, sq_Fy, ix_Fy_0, ix_Fy_1, ix_Fy_2, ix_Fy_3, ix_Fy_m1, ix_Fy_m2, ix_Fy_m3, len_Fy, non_Fy, tp_St, sq_St, ix_St_0, ix_St_1, ix_St_2, ix_St_3, ix_St_m1, ix_St_m2, ix_St_m3, len_St, non_St, tp_Flt, sq_Flt, ix_Flt_0, ix_Flt_1, ix_Flt_2, ix_Flt_3, ix_Flt_4, ix_Flt_m1, ix_Flt_m2, ix_Flt_m3, len_Flt, non_Flt, tp_Ld, ix_Ld_w, ix_Ld_h, ix_Ld_d, ix_Ld_hs, ix_Ld_bar, ix_Ld_peo, ix_Ld_pads, tp_hs, tp_Tk, tp_Row, tp_way, sq_way, len_way, non_Row, reduceIte, if_true, if_false, ite_true, ite_false, if_false_right, if_false_left, decide_eq_true_eq, Bool.not_eq_true', Bool.not_true, Bool.not_false, decide_eq_false_iff_not, Bool.false_eq_true, Bool.true_and, Bool.and_true, Bool.false_and, Bool.and_false, Bool.or_true, Bool.or_false, Bool.false_or, Bool.true_or, reduceCtorEq, true_and, and_true, Int.reduceLT, Int.reduceLE, Int.reducePow, Int.reduceNeg, Int.reduceMul, Int.reduceAdd, Int.reduceSub, Int.reduceToNat, Int.reduceEq, na10, Nat.reducePow, Nat.reduceLT, Nat.reduceLeDiff, Nat.reduceAdd, Nat.reduceSub, true_or, or_true, and_self, decide_true, decide_false, Bool.decide_eq_true, Bool.and_self, Bool.not_not, eq_self, not_true_eq_false, not_false_eq_true, $xs,*])
local macro_rules | `(tactic| simp_arith only [$xs,*] at $h:ident) => `(tactic| simp +decide only [Ok_cons, Ok_nil, SK_nx, SK_rt, FK_rt, FK_nx, evS, evE, evP, evEs, evQs, evPs, evO, evC, evI, evMs, setAll, ownS, Ok_bind, Ok_map, Ok_some, Ok_none, Ok_ite, getS, peekS, setS, wipeS, orc, permA, keyOf, List.map_cons, List.map_nil, List.cons_append, List.nil_append, List.append_nil, List.replicate, List.length_cons, List.length_nil, List.getElem?_cons_zero, List.getElem?_cons_succ, List.set_cons_zero, List.set_cons_succ, Option.map_some, Option.bind_some, Option.map_none, Option.bind_none, asgT, asgTs, sq_t, sq_l, Ts.len, starD, List.take_succ_cons, List.take_zero, List.drop_succ_cons, List.drop_zero, List.take_nil, List.drop_nil, List.flatten_cons, List.flatten_nil, List.foldl_cons, List.foldl_nil, tp_n, tp_b, tp_i, tp_s, tp_t, tp_l, tp_d, tp_k, tp_c, tp_r0, tp_r1, ix_l, ix_t, ix_k, ix_d, ix_di, at0, at1, at2, at3, at4, at5, at6, at7, atm1, atm2, atm3, b_add, b_sub, b_mul, b_div, b_mod, b_pow, b_addT, b_addL, b_mulL, c_lt, c_le, c_gt, c_ge, c_eq, c_ne, c_eqs, c_nes, c_is, c_isnt, n_n, n_t, n_i, n_l, bl_b, int_i, f_len, f_lenT, f_min, f_max, f_min3, f_max3, f_abs, f_intB, f_int, f_tup, f_tupT, f_lst, f_lstT, f_sum, r_l0, r_l1, ints_map, c_neNil, c_eqNil, c_ne00, sz0, pt0, pt1, pt2, isi_i, isi_t, isi_n, isi_b, isi_l, isi_s, cutT, cutL, cut_to, cut_from, fold_and, fold_or, fold_ite, fold_iteI, fold_iteB, fold_flt, ite_bF, ite_bT, szle, szlt, sm62_i, tp_Bx, sq_Bx, ix_Bx_0, ix_Bx_1, ix_Bx_2, ix_Bx_3, ix_Bx_m1, ix_Bx_m2, ix_Bx_m3, len_Bx, non_Bx, tp_Rm, sq_Rm, ix_Rm_0, ix_Rm_1, ix_Rm_2, ix_Rm_3, ix_Rm_4, ix_Rm_5, ix_Rm_m1, ix_Rm_m2, ix_Rm_m3, len_Rm, non_Rm, tp_Pd, sq_Pd, ix_Pd_0, ix_Pd_1, ix_Pd_2, ix_Pd_3, ix_Pd_4, ix_Pd_m1, ix_Pd_m2, ix_Pd_m3, len_Pd, non_Pd, tp_Fy, sq_Fy, ix_Fy_0, ix_Fy_1, ix_Fy_2, ix_Fy_3, ix_Fy_m1, ix_Fy_m2, ix_Fy_m3, len_Fy, non_Fy, tp_St, sq_St, ix_St_0, ix_St_1, ix_St_2, ix_St_3, ix_St_m1, ix_St_m2, ix_St_m3, len_St, non_St, tp_Flt, sq_Flt, ix_Flt_0, ix_Flt_1, ix_Flt_2, ix_Flt_3, ix_Flt_4, ix_Flt_m1, ix_Flt_m2, ix_Flt_m3, len_Flt, non_Flt, tp_Ld, ix_Ld_w, ix_Ld_h, ix_Ld_d, ix_Ld_hs, ix_Ld_bar, ix_Ld_peo, ix_Ld_pads, tp_hs, tp_Tk, tp_Row, tp_way, sq_way, len_way, non_Row, reduceIte, if_true, if_false, ite_true, ite_false, if_false_right, if_false_left, decide_eq_true_eq, Bool.not_eq_true', Bool.not_true, Bool.not_false, decide_eq_false_iff_not, Bool.false_eq_true, Bool.true_and, Bool.and_true, Bool.false_and, Bool.and_false, Bool.or_true, Bool.or_false, Bool.false_or, Bool.true_or, reduceCtorEq, true_and, and_true, Int.reduceLT, Int.reduceLE, Int.reducePow, Int.reduceNeg, Int.reduceMul, Int.reduceAdd, Int.reduceSub, Int.reduceToNat, Int.reduceEq, na10, Nat.reducePow, Nat.reduceLT, Nat.reduceLeDiff, Nat.reduceAdd, Nat.reduceSub, true_or, or_true, and_self, decide_true, decide_false, Bool.decide_eq_true, Bool.and_self, Bool.not_not, eq_self, not_true_eq_false, not_false_eq_true, $xs,*] at $h:ident)
local macro_rules | `(tactic| simp_arith [$xs,*]) => `(tactic| repeat (first | with_reducible (refine SKn ?_) | with_reducible (refine SKr ?_) | with_reducible (refine Okc ?_) | with_reducible (refine Okn ?_) | with_reducible (refine FRn ?_) | with_reducible (refine FRr ?_) | with_reducible (refine fr_cons ?_) | with_reducible (refine fr_nil ?_) | simp +decide only [FK_rt, FK_nx, evS, evE, evP, evEs, evQs, evPs, evO, evC, evI, evMs, setAll, ownS, Ok_bind, Ok_map, Ok_some, Ok_none, Ok_ite, getS, peekS, setS, wipeS, orc, permA, keyOf, List.map_cons, List.map_nil, List.cons_append, List.nil_append, List.append_nil, List.replicate, List.length_cons, List.length_nil, List.getElem?_cons_zero, List.getElem?_cons_succ, List.set_cons_zero, List.set_cons_succ, Option.map_some, Option.bind_some, Option.map_none, Option.bind_none, asgT, asgTs, sq_t, sq_l, Ts.len, starD, List.take_succ_cons, List.take_zero, List.drop_succ_cons, List.drop_zero, List.take_nil, List.drop_nil, List.flatten_cons, List.flatten_nil, List.foldl_cons, List.foldl_nil, tp_n, tp_b, tp_i, tp_s, tp_t, tp_l, tp_d, tp_k, tp_c, tp_r0, tp_r1, ix_l, ix_t, ix_k, ix_d, ix_di, at0, at1, at2, at3, at4, at5, at6, at7, atm1, atm2, atm3, b_add, b_sub, b_mul, b_div, b_mod, b_pow, b_addT, b_addL, b_mulL, c_lt, c_le, c_gt, c_ge, c_eq, c_ne, c_eqs, c_nes, c_is, c_isnt, n_n, n_t, n_i, n_l, bl_b, int_i, f_len, f_lenT, f_min, f_max, f_min3, f_max3, f_abs, f_intB, f_int, f_tup, f_tupT, f_lst, f_lstT, f_sum, r_l0, r_l1, ints_map, c_neNil, c_eqNil, c_ne00, sz0, pt0, pt1, pt2, isi_i, isi_t, isi_n, isi_b, isi_l, isi_s, cutT, cutL, cut_to, cut_from, fold_and, fold_or, fold_ite, fold_iteI, fold_iteB, fold_flt, ite_bF, ite_bT, szle, szlt, sm62_i, tp_Bx, sq_Bx, ix_Bx_0, ix_Bx_1, ix_Bx_2, ix_Bx_3, ix_Bx_m1, ix_Bx_m2, ix_Bx_m3, len_Bx, non_Bx, tp_Rm, sq_Rm, ix_Rm_0, ix_Rm_1, ix_Rm_2, ix_Rm_3, ix_Rm_4, ix_Rm_5, ix_Rm_m1, ix_Rm_m2, ix_Rm_m3, len_Rm, non_Rm, tp_Pd, sq_Pd, ix_Pd_0, ix_Pd_1, ix_Pd_2, ix_Pd_3, ix_Pd_4, ix_Pd_m1, ix_Pd_m2, ix_Pd_m3, len_Pd, non_Pd, tp_Fy, sq_Fy, ix_Fy_0, ix_Fy_1, ix_Fy_2, ix_Fy_3, ix_Fy_m1, ix_Fy_m2, ix_Fy_m3, len_Fy, non_Fy, tp_St, sq_St, ix_St_0, ix_St_1, ix_St_2, ix_St_3, ix_St_m1, ix_St_m2, ix_St_m3, len_St, non_St, tp_Flt, sq_Flt, ix_Flt_0, ix_Flt_1, ix_Flt_2, ix_Flt_3, ix_Flt_4, ix_Flt_m1, ix_Flt_m2, ix_Flt_m3, len_Flt, non_Flt, tp_Ld, ix_Ld_w, ix_Ld_h, ix_Ld_d, ix_Ld_hs, ix_Ld_bar, ix_Ld_peo, ix_Ld_pads, tp_hs, tp_Tk, tp_Row, tp_way, sq_way, len_way, non_Row, reduceIte, if_true, if_false, ite_true, ite_false, if_false_right, if_false_left, decide_eq_true_eq, Bool.not_eq_true', Bool.not_true, Bool.not_false, decide_eq_false_iff_not, Bool.false_eq_true, Bool.true_and, Bool.and_true, Bool.false_and, Bool.and_false, Bool.or_true, Bool.or_false, Bool.false_or, Bool.true_or, reduceCtorEq, true_and, and_true, Int.reduceLT, Int.reduceLE, Int.reducePow, Int.reduceNeg, Int.reduceMul, Int.reduceAdd, Int.reduceSub, Int.reduceToNat, Int.reduceEq, na10, Nat.reducePow, Nat.reduceLT, Nat.reduceLeDiff, Nat.reduceAdd, Nat.reduceSub, true_or, or_true, and_self, decide_true, decide_false, Bool.decide_eq_true, Bool.and_self, Bool.not_not, eq_self, not_true_eq_false, not_false_eq_true, $xs,*]))
/-! ### the laws' own beat -/
section
variable {P : Prg} [HasF P Gk37] [HasF P Gk07] [HasF P Gk08] {n i : Nat} {R S : Sto} {w h d x y t m c : Int} {L : Land} {F : Flt} {s b : Int} {k : Tk}
theorem lhas_P {p : Pd} : callN P (n + 1) 65 [p.t, .int x, .int y] S = some (.bl (p.has x y), S) := by
  refine eq_of_Ok (Ok_call (f := ⟨3, 3, b65⟩) hf65 rfl ?_)
  unfold b65
  simp_arith only [Pd.has, inB]
theorem lhas_B {p : Bx} : callN P (n + 1) 65 [p.t, .int x, .int y] S = some (.bl (p.has x y), S) := by
  refine eq_of_Ok (Ok_call (f := ⟨3, 3, b65⟩) hf65 rfl ?_)
  unfold b65
  simp_arith only [Bx.has, inB]
theorem lhas_R {p : Rm} : callN P (n + 1) 65 [p.t, .int x, .int y] S = some (.bl (inB p.a p.b p.c p.d x y), S) := by
  refine eq_of_Ok (Ok_call (f := ⟨3, 3, b65⟩) hf65 rfl ?_)
  unfold b65
  simp_arith only [inB]
theorem lpad_at_eq (ok : L.Ok) : callN P (n + 2) 66 [L.dct, .int x, .int y] S = some (padT (L.padAt x y), S) := by
  have dl := ok.dl
  refine eq_of_Ok (Ok_call (f := ⟨3, 6, b66⟩) hf66 rfl ?_)
  unfold b66
  simp_arith [enum_map]
  rw [lc_flt (g := fun q : Pd × Nat => D.int (q.2 : Nat)) (p := fun q => q.1.has x y) (by simp [sizeLine]; omega) fun q _ => by simp_arith only [lhas_P]]
  have e0 : ∀ l : List (Pd × Nat), l.map (fun q => D.int (q.2 : Nat)) = ((l.map fun q => q.2).map fun k : Nat => (k : Int)).map D.int := fun l => by simp
  rw [e0]
  cases e : L.pads.findIdx? fun p => p.has x y with
  | none =>
    have e1 := flt_none (k := 0) e
    have e2 : L.padAt x y = none := e
    rw [e1, e2]
    simp_arith []
    rfl
  | some j =>
    obtain ⟨r, e1⟩ := flt_some (k := 0) e
    have e2 : L.padAt x y = some j := e
    rw [e1, e2]
    have e3 : ∀ ns : List Int, ∀ k : Int, semCmp .NotEq (.lst (.int k :: ns.map D.int)) (.lst []) = some true := fun ns k => c_neNil (k :: ns)
    rw [Nat.zero_add]
    simp_arith [e3]
    rfl
theorem neNilR {rs : List Rm} (hl : rs.length ≤ 1000) : semCmp .NotEq (.lst (rs.map Rm.t)) (.lst []) = some (!rs.isEmpty) := by
  have c1 : ∀ r : Rm, Cm r.t 1 := fun r => Cm.tup (Cms.cons Cm.int (Cms.cons Cm.int (Cms.cons Cm.int (Cms.cons Cm.int (Cms.cons Cm.int (Cms.cons Cm.int Cms.nil))))))
  show (semEq _ _).map (!·) = _
  rw [semEq_is (Cm.lst (Cms.map fun r _ => c1 r)) (Cm.lst (k := 0) Cms.nil) (by decide) (by decide)]
  cases rs with
  | nil => rfl
  | cons r rs => rfl
theorem flt_emp {α : Type} {p : α → Bool} {xs : List α} : (xs.filter p).isEmpty = !xs.any p := by
  rw [Bool.eq_iff_iff, List.isEmpty_iff, List.filter_eq_nil_iff]
  simp
theorem lhurts_eq (ok : L.Ok) (c0 : 0 ≤ c) : callN P (n + 2) 67 [L.dct, .int x, .int y, .int t, .int c] S = some (wordT (L.hurts x y t c), S) := by
  refine eq_of_Ok (Ok_call (f := ⟨5, 12, b67⟩) hf67 rfl ?_)
  unfold b67
  unfold Land.hurts
  have eh : L.has x y = ((decide (0 ≤ x) && decide (x < L.w)) && (decide (0 ≤ y) && decide (y < L.h))) := rfl
  cases c1 : L.has x y with
  | false =>
    rw [c1] at eh
    cases d1 : (decide (0 ≤ x) && decide (x < L.w)) with
    | false =>
      simp_arith [d1]
      rfl
    | true =>
      rw [d1] at eh
      have d2 : (decide (0 ≤ y) && decide (y < L.h)) = false := by simpa using eh.symm
      simp_arith [d1, d2]
      rfl
  | true =>
    rw [c1] at eh
    have d12 := eh.symm
    rw [Bool.and_eq_true] at d12
    have hb := d12
    simp only [Bool.and_eq_true, decide_eq_true_eq] at hb
    by_cases c2 : L.hAt x y > c
    · cases e : L.hs with
      | none =>
        unfold Land.hAt at c2
        rw [e] at c2
        simp only at c2
        omega
      | some r =>
        obtain ⟨l1, l2⟩ := ok.hs r e
        have lt : y.toNat < r.length := by omega
        have e4 : atI (r.map rowT) y = some (rowT r[y.toNat]) := by
          rw [at_in hb.2.1 (by rw [List.length_map]; omega), List.getElem?_map, List.getElem?_eq_getElem lt]
          rfl
        have l3 := (l2 _ (List.getElem_mem lt)).1
        have e3 : L.hAt x y = ((r[y.toNat])[x.toNat]?).getD 0 := by unfold Land.hAt; rw [e]; simp only; rw [List.getElem?_eq_getElem lt]; rfl
        have tpR : ∀ {l : List Int}, top S (rowT l) = rowT l := rfl
        have e2 : hsT L.hs = .tup (r.map rowT) := by rw [e]; rfl
        rw [e3] at c2
        simp_arith [d12.1, d12.2, e2, e4, tpR, ixRow hb.1.1 (show x < (r[y.toNat]).length by omega), c2, e3]
        rfl
    · cases e : L.hs with
      | none =>
        have e2 : hsT L.hs = .non := by rw [e]; rfl
        simp_arith [d12.1, d12.2, e2, c2]
        rw [lc_flt (enc := Rm.t) (g := Rm.t) (p := fun r => r.has x y t) (by have := ok.bl; simp [sizeLine]; omega) fun r _ => by (simp_arith only [lhas_R, Rm.has]) <;> rfl]
        cases c3 : (L.bar.any fun r => r.has x y t) with
        | true =>
          simp_arith [neNilR (rs := L.bar.filter fun r => r.has x y t) (by have := ok.bl; have := List.length_filter_le (fun r => r.has x y t) L.bar; omega), flt_emp, c3]
          rfl
        | false =>
          simp_arith [neNilR (rs := L.bar.filter fun r => r.has x y t) (by have := ok.bl; have := List.length_filter_le (fun r => r.has x y t) L.bar; omega), flt_emp, c3]
          refine Ok_fr0 (enc := Rm.t) (fun pre env S' => S' = S ∧ (pre.any fun r => r.near x y t) = false ∧ ∃ a b c1 d e f g, env = [.fz L.dct, .fz (.int x), .fz (.int y), .fz (.int t), .fz (.int c), a, b, c1, d, e, f, g]) ⟨rfl, rfl, _, _, _, _, _, _, _, rfl⟩ ?_ ?_
          · rintro pre r post env S' hx ⟨rfl, hn, a, b, c', d, e, f, g, rfl⟩
            cases c4 : r.near x y t with
            | true =>
              have c5 := c4
              unfold Rm.near inB at c5
              rw [Bool.and_assoc] at c5
              have c6 : (L.peo.any fun r => r.near x y t) = true := by rw [hx]; simp [c4]
              simp_arith [c5, c6]
              rfl
            | false =>
              have c5 := c4
              unfold Rm.near inB at c5
              rw [Bool.and_assoc] at c5
              simp_arith [c5]
              exact ⟨by rw [List.any_append, hn]; simp [c4], _, _, _, _, _, _, _, rfl⟩
          · rintro env S' ⟨rfl, hn, a, b, c', d, e, f, g, rfl⟩
            simp_arith [hn]
            rfl
      | some r =>
        obtain ⟨l1, l2⟩ := ok.hs r e
        have lt : y.toNat < r.length := by omega
        have e4 : atI (r.map rowT) y = some (rowT r[y.toNat]) := by
          rw [at_in hb.2.1 (by rw [List.length_map]; omega), List.getElem?_map, List.getElem?_eq_getElem lt]
          rfl
        have l3 := (l2 _ (List.getElem_mem lt)).1
        have e3 : L.hAt x y = ((r[y.toNat])[x.toNat]?).getD 0 := by unfold Land.hAt; rw [e]; simp only; rw [List.getElem?_eq_getElem lt]; rfl
        have tpR : ∀ {l : List Int}, top S (rowT l) = rowT l := rfl
        have e2 : hsT L.hs = .tup (r.map rowT) := by rw [e]; rfl
        rw [e3] at c2
        simp_arith [d12.1, d12.2, e2, e4, tpR, ixRow hb.1.1 (show x < (r[y.toNat]).length by omega), c2, e3]
        rw [lc_flt (enc := Rm.t) (g := Rm.t) (p := fun r => r.has x y t) (by have := ok.bl; simp [sizeLine]; omega) fun r _ => by (simp_arith only [lhas_R, Rm.has]) <;> rfl]
        cases c3 : (L.bar.any fun r => r.has x y t) with
        | true =>
          simp_arith [neNilR (rs := L.bar.filter fun r => r.has x y t) (by have := ok.bl; have := List.length_filter_le (fun r => r.has x y t) L.bar; omega), flt_emp, c3]
          rfl
        | false =>
          simp_arith [neNilR (rs := L.bar.filter fun r => r.has x y t) (by have := ok.bl; have := List.length_filter_le (fun r => r.has x y t) L.bar; omega), flt_emp, c3]
          refine Ok_fr0 (enc := Rm.t) (fun pre env S' => S' = S ∧ (pre.any fun r => r.near x y t) = false ∧ ∃ a b c1 d e f g, env = [.fz L.dct, .fz (.int x), .fz (.int y), .fz (.int t), .fz (.int c), a, b, c1, d, e, f, g]) ⟨rfl, rfl, _, _, _, _, _, _, _, rfl⟩ ?_ ?_
          · rintro pre r post env S' hx ⟨rfl, hn, a, b, c', d, e, f, g, rfl⟩
            cases c4 : r.near x y t with
            | true =>
              have c5 := c4
              unfold Rm.near inB at c5
              rw [Bool.and_assoc] at c5
              have c6 : (L.peo.any fun r => r.near x y t) = true := by rw [hx]; simp [c4]
              simp_arith [c5, c6]
              rfl
            | false =>
              have c5 := c4
              unfold Rm.near inB at c5
              rw [Bool.and_assoc] at c5
              simp_arith [c5]
              exact ⟨by rw [List.any_append, hn]; simp [c4], _, _, _, _, _, _, _, rfl⟩
          · rintro env S' ⟨rfl, hn, a, b, c', d, e, f, g, rfl⟩
            simp_arith [hn]
            rfl
theorem lstep_eq : callN P (n + 2) 68 [k.t, .int s, .int x, .int y, .int t] S = some (.int (stepF k s x y t), S) := by
  refine eq_of_Ok (Ok_call (f := ⟨5, 7, b68⟩) hf68 rfl ?_)
  unfold b68
  cases k with
  | no => unfold Tk.t; simp_arith [stepF]
  | look b f l =>
    have e1 := last_eq (P := P) (n := n) (S := S) (t := .look b f l)
    unfold Tk.t at e1 ⊢
    unfold stepF
    by_cases hs : s = 1
    · simp_arith [e1, lastF, hs]
    · cases c0 : inH f l t <;> have c9 := c0 <;> unfold inH at c9 <;> cases c : b.has x y <;> simp_arith [e1, lastF, hs, lhas_B, c9, c, c0]
  | bring b o m f l =>
    have e1 := last_eq (P := P) (n := n) (S := S) (t := .bring b o m f l)
    unfold Tk.t at e1 ⊢
    unfold stepF
    by_cases hs : s = 2
    · simp_arith [e1, lastF, hs]
    · cases c0 : inH f l t <;> have c9 := c0 <;> unfold inH at c9 <;> cases c : (if s = 1 then o else b).has x y <;> simp_arith [e1, lastF, hs, lhas_B, c9, c, iteBx, c0]
  | over b m f l =>
    have e1 := last_eq (P := P) (n := n) (S := S) (t := .over b m f l)
    unfold Tk.t at e1 ⊢
    unfold stepF
    by_cases hs : s = m
    · simp_arith [e1, lastF, hs]
    · cases c0 : inH f l t <;> have c9 := c0 <;> unfold inH at c9 <;> cases c : b.has x y <;> simp_arith [e1, lastF, hs, lhas_B, c9, c, c0]
theorem lload_eq : callN P (n + 1) 69 [k.t, .int s] S = some (.int (loadF k s), S) := by
  refine eq_of_Ok (Ok_call (f := ⟨2, 2, b69⟩) hf69 rfl ?_)
  unfold b69
  cases k with
  | bring b o n f l =>
    unfold Tk.t
    by_cases hs : s = 1
    · simp_arith [hs, loadF]
    · simp_arith [hs, loadF]
  | _ => unfold Tk.t; simp_arith [loadF]
theorem lstands_eq {r : Row} (ok : L.Ok) : callN P (n + 3) 70 [L.dct, F.t, r.t, .int x, .int y] S = some (.bl (stands L F r x y), S) := by
  refine eq_of_Ok (Ok_call (f := ⟨5, 5, b70⟩) hf70 rfl ?_)
  unfold b70
  cases r with
  | go a b => unfold Row.t; simp_arith [stands]
  | aim a b => unfold Row.t; simp_arith [stands]
  | stand => unfold Row.t; simp_arith [stands]
  | home => unfold Row.t; simp_arith [stands, lpad_at_eq ok, tp_pad, c_pad]
theorem lbeat_eq {r : Row} {q : St} {wx wy : Int} (ok : L.Ok) (hF : FltOk L F) (hx : Sm2 wx) (hy : Sm2 wy) : callN P (n + 4) 71 [L.dct, F.t, r.t, .int b, q.t, .tup [.int wx, .int wy]] S = some ((beatF L F r b q wx wy).t, S) := by
  have c0 := hF.fy.c0
  refine eq_of_Ok (Ok_call (f := ⟨6, 19, b71⟩) hf71 rfl ?_)
  unfold b71
  unfold beatF carF
  cases c1 : stands L F r q.x q.y with
  | true =>
    cases c2 : L.padAt q.x q.y with
    | none =>
      simp_arith [lstands_eq ok, c1, lpad_at_eq ok, tp_pad, pad_none, c2, padT]
      rfl
    | some j =>
      simp_arith [lstands_eq ok, c1, lpad_at_eq ok, tp_pad, pad_none, c2, padT]
      generalize hch : (if q.c + F.fy.g < F.fy.f then q.c + F.fy.g else F.fy.f) = ch
      by_cases c3 : ch < 0
      · simp_arith [c3, int_i]
        rfl
      · cases c4 : L.hurts q.x q.y (b + 1) F.fy.c with
        | some w =>
          have ns : isNon (.str w) = false := rfl
          have ea : arrF L F (b + 1) q.s ⟨q.x, q.y, ch⟩ = .br w := by unfold arrF; simp only [c4]
          simp_arith [c3, lhurts_eq ok c0, tp_word, c4, wordT, ns, ea]
          rfl
        | none =>
          have ea : arrF L F (b + 1) q.s ⟨q.x, q.y, ch⟩ = .st ⟨q.x, q.y, stepF F.task q.s (q.x) (q.y) (b + 1), ch⟩ := by unfold arrF; simp only [c4]
          simp_arith [c3, lhurts_eq ok c0, tp_word, c4, wordT, ea, lstep_eq]
          rfl
  | false =>
    have hr : r ≠ .stand := fun z => by rw [z] at c1; cases c1
    have e1 := lwish_eq (P := P) (n := n + 2) (S := S) (x := q.x) (y := q.y) (L := L) (F := F) hr hF.h0 hF.h1
    unfold wishT at e1
    simp_arith [lstands_eq ok, c1, e1]
    have sx : Sm2 (wishX L F r q.x) := clip_sm2 hF.fy.r0 hF.fy.r1
    have sy : Sm2 (wishY L F r q.y) := clip_sm2 hF.fy.r0 hF.fy.r1
    obtain ⟨sx0, sx1⟩ := sx
    obtain ⟨sy0, sy1⟩ := sy
    refine ⟨.inl ⟨by omega, by omega⟩, .inl ⟨by omega, by omega⟩, ?_⟩
    have ec : ∀ a2 : Int, q.c - 1 - (if wishX L F r q.x < 0 then -wishX L F r q.x else wishX L F r q.x) - (if wishY L F r q.y < 0 then -wishY L F r q.y else wishY L F r q.y) - ((if wishX L F r q.x * wx < 0 then 1 else 0) + if wishY L F r q.y * wy < 0 then 1 else 0) - loadF F.task q.s = q.c - costF F.task q.s (wishX L F r q.x) (wishY L F r q.y) wx wy := fun a2 => by
      unfold costF absZ agn
      omega
    simp_arith [lload_eq]
    rw [ec 0]
    generalize hch : q.c - costF F.task q.s (wishX L F r q.x) (wishY L F r q.y) wx wy = ch
    by_cases c3 : ch < 0
    · simp_arith [c3, int_i]
      rfl
    · cases c4 : L.hurts (q.x + wishX L F r q.x + wx) (q.y + wishY L F r q.y + wy) (b + 1) F.fy.c with
      | some w =>
        have ns : isNon (.str w) = false := rfl
        have ea : arrF L F (b + 1) q.s ⟨q.x + wishX L F r q.x + wx, q.y + wishY L F r q.y + wy, ch⟩ = .br w := by unfold arrF; simp only [c4]
        simp_arith [c3, lhurts_eq ok c0, tp_word, c4, wordT, ns, ea]
        rfl
      | none =>
        have ea : arrF L F (b + 1) q.s ⟨q.x + wishX L F r q.x + wx, q.y + wishY L F r q.y + wy, ch⟩ = .st ⟨q.x + wishX L F r q.x + wx, q.y + wishY L F r q.y + wy, stepF F.task q.s (q.x + wishX L F r q.x + wx) (q.y + wishY L F r q.y + wy) (b + 1), ch⟩ := by unfold arrF; simp only [c4]
        simp_arith [c3, lhurts_eq ok c0, tp_word, c4, wordT, ea, lstep_eq]
        rfl
end
end Wf
-- ENC2
set_option Elab.async false
set_option linter.all false
set_option maxRecDepth 100000
namespace Wf
open PySem L2
local macro_rules | `(tactic| simp_arith only [$xs,*]) => `(tactic| simp +decide only [Ok_cons, Ok_nil, SK_nx, SK_rt, FK_rt, FK_nx, evS, evE, evP, evEs, evQs, evPs, evO, evC, evI, evMs, setAll, ownS, Ok_bind, Ok_map, Ok_some, Ok_none, Ok_ite, getS, peekS, setS, wipeS, orc, permA, keyOf, List.map_cons, List.map_nil, List.cons_append, List.nil_append, List.append_nil, List.replicate, List.length_cons, List.length_nil, List.getElem?_cons_zero, List.getElem?_cons_succ, List.set_cons_zero, List.set_cons_succ, Option.map_some, Option.bind_some, Option.map_none, Option.bind_none, asgT, asgTs, sq_t, sq_l, Ts.len, starD, List.take_succ_cons, List.take_zero, List.drop_succ_cons, List.drop_zero, List.take_nil, List.drop_nil, List.flatten_cons, List.flatten_nil, List.foldl_cons, List.foldl_nil, tp_n, tp_b, tp_i, tp_s, tp_t, tp_l, tp_d, tp_k, tp_c, tp_r0, tp_r1, ix_l, ix_t, ix_k, ix_d, ix_di, at0, at1, at2, at3, at4, at5, at6, at7, atm1, atm2, atm3, b_add, b_sub, b_mul, b_div, b_mod, b_pow, b_addT, b_addL, b_mulL, c_lt, c_le, c_gt, c_ge, c_eq, c_ne, c_eqs, c_nes, c_is, c_isnt, n_n, n_t, n_i, n_l, bl_b, int_i, f_len, f_lenT, f_min, f_max, f_min3, f_max3, f_abs, f_intB, f_int, f_tup, f_tupT, f_lst, f_lstT, f_sum, r_l0, r_l1, ints_map, c_neNil, c_eqNil, c_ne00, sz0, pt0, pt1, pt2, isi_i, isi_t, isi_n, isi_b, isi_l, isi_s, cutT, cutL, cut_to, cut_from, fold_and, fold_or, fold_ite, fold_iteI, fold_iteB, fold_flt, ite_bF, ite_bT, szle, szlt, sm62_i, tp_Bx, sq_Bx, ix_Bx_0, ix_Bx_1, ix_Bx_2, ix_Bx_3, ix_Bx_m1, ix_Bx_m2, ix_Bx_m3, len_Bx, non_Bx, tp_Rm, sq_Rm, ix_Rm_0, ix_Rm_1, ix_Rm_2, ix_Rm_3, ix_Rm_4, ix_Rm_5, ix_Rm_m1, ix_Rm_m2, ix_Rm_m3, len_Rm, non_Rm, tp_Pd, sq_Pd, ix_Pd_0, ix_Pd_1, ix_Pd_2, ix_Pd_3, ix_Pd_4, ix_Pd_m1, ix_Pd_m2, ix_Pd_m3, len_Pd, non_Pd, tp_Fy, sq_Fy, ix_Fy_0, ix_Fy_1, ix_Fy_2, ix_Fy_3, ix_Fy_m1, ix_Fy_m2, ix_Fy_m3, len_Fy, non_Fy, tp_St, sq_St, ix_St_0, ix_St_1, ix_St_2, ix_St_3, ix_St_m1, ix_St_m2, ix_St_m3, len_St, non_St, tp_Flt, sq_Flt, ix_Flt_0, ix_Flt_1, ix_Flt_2, ix_Flt_3, ix_Flt_4, ix_Flt_m1, ix_Flt_m2, ix_Flt_m3, len_Flt, non_Flt, tp_Ld, ix_Ld_w, ix_Ld_h, ix_Ld_d, ix_Ld_hs, ix_Ld_bar, ix_Ld_peo, ix_Ld_pads, tp_hs, tp_Tk, tp_Row, tp_way, sq_way, len_way, non_Row, reduceIte, if_true, if_false, ite_true, ite_false, if_false_right, if_false_left, decide_eq_true_eq, Bool.not_eq_true', Bool.not_true, Bool.not_false, decide_eq_false_iff_not, Bool.false_eq_true, Bool.true_and, Bool.and_true, Bool.false_and, Bool.and_false, Bool.or_true, Bool.or_false, Bool.false_or, Bool.true_or, reduceCtorEq, true_and, and_true, Int.reduceLT, Int.reduceLE, Int.reducePow, Int.reduceNeg, Int.reduceMul, Int.reduceAdd, Int.reduceSub, Int.reduceToNat, Int.reduceEq, na10, Nat.reducePow, Nat.reduceLT, Nat.reduceLeDiff, Nat.reduceAdd, Nat.reduceSub, true_or, or_true, and_self, decide_true, decide_false, Bool.decide_eq_true, Bool.and_self, Bool.not_not, eq_self, not_true_eq_false, not_false_eq_true, $xs,*])
local macro_rules | `(tactic| simp_arith only [$xs,*] at $h:ident) => `(tactic| simp +decide only [Ok_cons, Ok_nil, SK_nx, SK_rt, FK_rt, FK_nx, evS, evE, evP, evEs, evQs, evPs, evO, evC, evI, evMs, setAll, ownS, Ok_bind, Ok_map, Ok_some, Ok_none, Ok_ite, getS, peekS, setS, wipeS, orc, permA, keyOf, List.map_cons, List.map_nil, List.cons_append, List.nil_append, List.append_nil, List.replicate, List.length_cons, List.length_nil, List.getElem?_cons_zero, List.getElem?_cons_succ, List.set_cons_zero, List.set_cons_succ, Option.map_some, Option.bind_some, Option.map_none, Option.bind_none, asgT, asgTs, sq_t, sq_l, Ts.len, starD, List.take_succ_cons, List.take_zero, List.drop_succ_cons, List.drop_zero, List.take_nil, List.drop_nil, List.flatten_cons, List.flatten_nil, List.foldl_cons, List.foldl_nil, tp_n, tp_b, tp_i, tp_s, tp_t, tp_l, tp_d, tp_k, tp_c, tp_r0, tp_r1, ix_l, ix_t, ix_k, ix_d, ix_di, at0, at1, at2, at3, at4, at5, at6, at7, atm1, atm2, atm3, b_add, b_sub, b_mul, b_div, b_mod, b_pow, b_addT, b_addL, b_mulL, c_lt, c_le, c_gt, c_ge, c_eq, c_ne, c_eqs, c_nes, c_is, c_isnt, n_n, n_t, n_i, n_l, bl_b, int_i, f_len, f_lenT, f_min, f_max, f_min3, f_max3, f_abs, f_intB, f_int, f_tup, f_tupT, f_lst, f_lstT, f_sum, r_l0, r_l1, ints_map, c_neNil, c_eqNil, c_ne00, sz0, pt0, pt1, pt2, isi_i, isi_t, isi_n, isi_b, isi_l, isi_s, cutT, cutL, cut_to, cut_from, fold_and, fold_or, fold_ite, fold_iteI, fold_iteB, fold_flt, ite_bF, ite_bT, szle, szlt, sm62_i, tp_Bx, sq_Bx, ix_Bx_0, ix_Bx_1, ix_Bx_2, ix_Bx_3, ix_Bx_m1, ix_Bx_m2, ix_Bx_m3, len_Bx, non_Bx, tp_Rm, sq_Rm, ix_Rm_0, ix_Rm_1, ix_Rm_2, ix_Rm_3, ix_Rm_4, ix_Rm_5, ix_Rm_m1, ix_Rm_m2, ix_Rm_m3, len_Rm, non_Rm, tp_Pd, sq_Pd, ix_Pd_0, ix_Pd_1, ix_Pd_2, ix_Pd_3, ix_Pd_4, ix_Pd_m1, ix_Pd_m2, ix_Pd_m3, len_Pd, non_Pd, tp_Fy, sq_Fy, ix_Fy_0, ix_Fy_1, ix_Fy_2, ix_Fy_3, ix_Fy_m1, ix_Fy_m2, ix_Fy_m3, len_Fy, non_Fy, tp_St, sq_St, ix_St_0, ix_St_1, ix_St_2, ix_St_3, ix_St_m1, ix_St_m2, ix_St_m3, len_St, non_St, tp_Flt, sq_Flt, ix_Flt_0, ix_Flt_1, ix_Flt_2, ix_Flt_3, ix_Flt_4, ix_Flt_m1, ix_Flt_m2, ix_Flt_m3, len_Flt, non_Flt, tp_Ld, ix_Ld_w, ix_Ld_h, ix_Ld_d, ix_Ld_hs, ix_Ld_bar, ix_Ld_peo, ix_Ld_pads, tp_hs, tp_Tk, tp_Row, tp_way, sq_way, len_way, non_Row, reduceIte, if_true, if_false, ite_true, ite_false, if_false_right, if_false_left, decide_eq_true_eq, Bool.not_eq_true', Bool.not_true, Bool.not_false, decide_eq_false_iff_not, Bool.false_eq_true, Bool.true_and, Bool.and_true, Bool.false_and, Bool.and_false, Bool.or_true, Bool.or_false, Bool.false_or, Bool.true_or, reduceCtorEq, true_and, and_true, Int.reduceLT, Int.reduceLE, Int.reducePow, Int.reduceNeg, Int.reduceMul, Int.reduceAdd, Int.reduceSub, Int.reduceToNat, Int.reduceEq, na10, Nat.reducePow, Nat.reduceLT, Nat.reduceLeDiff, Nat.reduceAdd, Nat.reduceSub, true_or, or_true, and_self, decide_true, decide_false, Bool.decide_eq_true, Bool.and_self, Bool.not_not, eq_self, not_true_eq_false, not_false_eq_true, $xs,*] at $h:ident)
local macro_rules | `(tactic| simp_arith [$xs,*]) => `(tactic| repeat (first | with_reducible (refine SKn ?_) | with_reducible (refine SKr ?_) | with_reducible (refine Okc ?_) | with_reducible (refine Okn ?_) | with_reducible (refine FRn ?_) | with_reducible (refine FRr ?_) | with_reducible (refine fr_cons ?_) | with_reducible (refine fr_nil ?_) | simp +decide only [FK_rt, FK_nx, evS, evE, evP, evEs, evQs, evPs, evO, evC, evI, evMs, setAll, ownS, Ok_bind, Ok_map, Ok_some, Ok_none, Ok_ite, getS, peekS, setS, wipeS, orc, permA, keyOf, List.map_cons, List.map_nil, List.cons_append, List.nil_append, List.append_nil, List.replicate, List.length_cons, List.length_nil, List.getElem?_cons_zero, List.getElem?_cons_succ, List.set_cons_zero, List.set_cons_succ, Option.map_some, Option.bind_some, Option.map_none, Option.bind_none, asgT, asgTs, sq_t, sq_l, Ts.len, starD, List.take_succ_cons, List.take_zero, List.drop_succ_cons, List.drop_zero, List.take_nil, List.drop_nil, List.flatten_cons, List.flatten_nil, List.foldl_cons, List.foldl_nil, tp_n, tp_b, tp_i, tp_s, tp_t, tp_l, tp_d, tp_k, tp_c, tp_r0, tp_r1, ix_l, ix_t, ix_k, ix_d, ix_di, at0, at1, at2, at3, at4, at5, at6, at7, atm1, atm2, atm3, b_add, b_sub, b_mul, b_div, b_mod, b_pow, b_addT, b_addL, b_mulL, c_lt, c_le, c_gt, c_ge, c_eq, c_ne, c_eqs, c_nes, c_is, c_isnt, n_n, n_t, n_i, n_l, bl_b, int_i, f_len, f_lenT, f_min, f_max, f_min3, f_max3, f_abs, f_intB, f_int, f_tup, f_tupT, f_lst, f_lstT, f_sum, r_l0, r_l1, ints_map, c_neNil, c_eqNil, c_ne00, sz0, pt0, pt1, pt2, isi_i, isi_t, isi_n, isi_b, isi_l, isi_s, cutT, cutL, cut_to, cut_from, fold_and, fold_or, fold_ite, fold_iteI, fold_iteB, fold_flt, ite_bF, ite_bT, szle, szlt, sm62_i, tp_Bx, sq_Bx, ix_Bx_0, ix_Bx_1, ix_Bx_2, ix_Bx_3, ix_Bx_m1, ix_Bx_m2, ix_Bx_m3, len_Bx, non_Bx, tp_Rm, sq_Rm, ix_Rm_0, ix_Rm_1, ix_Rm_2, ix_Rm_3, ix_Rm_4, ix_Rm_5, ix_Rm_m1, ix_Rm_m2, ix_Rm_m3, len_Rm, non_Rm, tp_Pd, sq_Pd, ix_Pd_0, ix_Pd_1, ix_Pd_2, ix_Pd_3, ix_Pd_4, ix_Pd_m1, ix_Pd_m2, ix_Pd_m3, len_Pd, non_Pd, tp_Fy, sq_Fy, ix_Fy_0, ix_Fy_1, ix_Fy_2, ix_Fy_3, ix_Fy_m1, ix_Fy_m2, ix_Fy_m3, len_Fy, non_Fy, tp_St, sq_St, ix_St_0, ix_St_1, ix_St_2, ix_St_3, ix_St_m1, ix_St_m2, ix_St_m3, len_St, non_St, tp_Flt, sq_Flt, ix_Flt_0, ix_Flt_1, ix_Flt_2, ix_Flt_3, ix_Flt_4, ix_Flt_m1, ix_Flt_m2, ix_Flt_m3, len_Flt, non_Flt, tp_Ld, ix_Ld_w, ix_Ld_h, ix_Ld_d, ix_Ld_hs, ix_Ld_bar, ix_Ld_peo, ix_Ld_pads, tp_hs, tp_Tk, tp_Row, tp_way, sq_way, len_way, non_Row, reduceIte, if_true, if_false, ite_true, ite_false, if_false_right, if_false_left, decide_eq_true_eq, Bool.not_eq_true', Bool.not_true, Bool.not_false, decide_eq_false_iff_not, Bool.false_eq_true, Bool.true_and, Bool.and_true, Bool.false_and, Bool.and_false, Bool.or_true, Bool.or_false, Bool.false_or, Bool.true_or, reduceCtorEq, true_and, and_true, Int.reduceLT, Int.reduceLE, Int.reducePow, Int.reduceNeg, Int.reduceMul, Int.reduceAdd, Int.reduceSub, Int.reduceToNat, Int.reduceEq, na10, Nat.reducePow, Nat.reduceLT, Nat.reduceLeDiff, Nat.reduceAdd, Nat.reduceSub, true_or, or_true, and_self, decide_true, decide_false, Bool.decide_eq_true, Bool.and_self, Bool.not_not, eq_self, not_true_eq_false, not_false_eq_true, $xs,*]))
section
variable {P : Prg} [HasF P Gk37] [HasF P Gk07] {n i : Nat} {R S : Sto} {w h d x y m : Int} {L : Land} {F : Flt} {s b : Int} {Q : D × Sto → Prop}
theorem Row.rp {r : Row} (h : RowOk r) : Rp r.t 100 1 := by
  cases r with
  | go x y => obtain ⟨h1, h2, h3, h4⟩ := h; exact Rp.wide (Rp.tup (k := 0) (RpS.cons (Rp.str (by decide)) (RpS.cons (Rp.int (by omega)) (RpS.cons (Rp.int (by omega)) RpS.nil)))) (by decide) (by decide)
  | aim x y => obtain ⟨h1, h2, h3, h4⟩ := h; exact Rp.wide (Rp.tup (k := 0) (RpS.cons (Rp.str (by decide)) (RpS.cons (Rp.int (by omega)) (RpS.cons (Rp.int (by omega)) RpS.nil)))) (by decide) (by decide)
  | stand => exact Rp.wide (Rp.tup (k := 0) (RpS.cons (Rp.str (by decide)) RpS.nil)) (by decide) (by decide)
  | home => exact Rp.wide (Rp.tup (k := 0) (RpS.cons (Rp.str (by decide)) RpS.nil)) (by decide) (by decide)
theorem Bx.rp' {b : Bx} (hw : w ≤ 12) (hh : h ≤ 12) (hb : BxOk' w h b) : Rp b.t 63 1 := Bx.rp (by omega) (by omega) hb
theorem Tk.rp {t : Tk} (hw : w ≤ 12) (hh : h ≤ 12) (hd : d ≤ 24) (ht : TkOk w h d t) : Rp t.t 400 2 := by
  have hr := ht.hrs
  have hb := ht.box
  cases t <;> simp only [Tk.hrs] at hr
  case no => exact Rp.wide (Rp.non (k := 0)) (by decide) (by decide)
  case look b f l => exact Rp.wide (Rp.tup (k := 1) (RpS.cons (Rp.str (by decide)) (RpS.cons (Bx.rp' hw hh (hb b (by simp [Tk.boxes]))) (RpS.cons (Rp.int (by omega)) (RpS.cons (Rp.int (by omega)) RpS.nil))))) (by decide) (by decide)
  case bring b o m f l => exact Rp.wide (Rp.tup (k := 1) (RpS.cons (Rp.str (by decide)) (RpS.cons (Bx.rp' hw hh (hb b (by simp [Tk.boxes]))) (RpS.cons (Bx.rp' hw hh (hb o (by simp [Tk.boxes]))) (RpS.cons (Rp.int (by omega)) (RpS.cons (Rp.int (by omega)) (RpS.cons (Rp.int (by omega)) RpS.nil))))))) (by decide) (by decide)
  case over b m f l => exact Rp.wide (Rp.tup (k := 1) (RpS.cons (Rp.str (by decide)) (RpS.cons (Bx.rp' hw hh (hb b (by simp [Tk.boxes]))) (RpS.cons (Rp.int (by omega)) (RpS.cons (Rp.int (by omega)) (RpS.cons (Rp.int (by omega)) RpS.nil)))))) (by decide) (by decide)
theorem Fy.rp {f : Fy} (h : FyOk f) : Rp f.t 63 1 := by
  obtain ⟨h1, h2, h3, h4, h5, h6, h7, h8⟩ := h
  refine Rp.ints (xs := [f.r, f.c, f.f, f.g]) fun x hx => ?_
  unfold Sm
  simp only [List.mem_cons, List.not_mem_nil, or_false] at hx
  omega
theorem Flt.rp (ok : L.Ok) (h : FltOk L F) : Rp F.t 4000 3 := by
  have w1 := ok.w1
  have h1 := ok.h1
  have d1 := ok.d1
  have pl := ok.dl
  have lb := h.task.last
  have hs : Rp F.st.t 63 1 := by
    refine Rp.ints (xs := [F.st.x, F.st.y, F.st.s, F.st.c]) fun x hx => ?_
    have a1 := h.x0
    have a2 := h.x1
    have a3 := h.y0
    have a4 := h.y1
    have a5 := h.s0
    have a6 := h.s1
    have a7 := h.c0
    have a8 := h.c1
    have a9 := h.fy.f1
    unfold Sm
    simp only [List.mem_cons, List.not_mem_nil, or_false] at hx
    omega
  have hw : Rp (wayT F.way) (24 * 102 + 3) 2 := Rp.wide (Rp.tup (RpS.map fun r hr => Row.rp (h.way r hr))) (by have := h.wl; omega) (by decide)
  have hh : Rp (.int F.home) 13 2 := Rp.int (by have := h.h0; have := h.h1; omega)
  exact Rp.wide (Rp.tup (RpS.cons ((Fy.rp h.fy).wide (Nat.le_refl _) (by decide)) (RpS.cons (hs.wide (Nat.le_refl _) (by decide)) (RpS.cons hw (RpS.cons (Tk.rp w1 h1 d1 h.task) (RpS.cons hh RpS.nil)))))) (by decide) (by decide)
theorem rowAt_ok {t : Option Int} (h : FltOk L F) : RowOk (rowAt F s b t) := by
  have go : RowOk ((F.way[(b - s).toNat]?).getD .home) := by
    cases e : F.way[(b - s).toNat]? with
    | none => trivial
    | some r => exact h.way r (List.mem_of_getElem? e)
  unfold rowAt
  split
  · trivial
  · exact go
theorem made_eq (ok : L.Ok) : callN P (n + 7) 44 [L.dct] S = some (.ref S.length, S ++ [.ins 0 L.fs]) := by
  refine eq_of_Ok (Ok_call (f := ⟨1, 2, b44⟩) hf44 rfl ?_)
  unfold b44
  have e : callN P (n + 6) 11 [.ref S.length, .int L.w, .int L.h, .int L.day, hsT L.hs, .tup (L.bar.map Rm.t), .tup (L.peo.map Rm.t), .tup (L.pads.map Pd.t)] (S ++ [.ins 0 []]) = some (.non, S ++ [.ins 0 L.fs]) := by
    rw [Land_init_eq (by simp) ok]
    simp
  simp_arith [e]
theorem FltRp (ok : L.Ok) (h : FltOk L F) : semBi .repr [F.t] = some (.str (shD F.t)) := f_rp (Flt.rp ok h) (by decide) (by decide)
end
end Wf
-- ENC2
set_option Elab.async false
set_option linter.all false
set_option maxRecDepth 100000
namespace Wf
open PySem L2
/-- a state of a flight on a land -/
structure StOk (L : Land) (F : Flt) (q : St) : Prop where
  x0 : 0 ≤ q.x
  x1 : q.x < L.w
  y0 : 0 ≤ q.y
  y1 : q.y < L.h
  s0 : 0 ≤ q.s
  s1 : q.s ≤ lastF F.task
  c0 : 0 ≤ q.c
  c1 : q.c ≤ F.fy.f
def brWords : List Str := ["nopad", "empty", "out", "high", "barred", "people"]
section
variable {n i : Nat} {w h d x y t m c : Int} {L : Land} {F : Flt} {s b : Int}
theorem FltOk.stOk (h : FltOk L F) : StOk L F F.st := ⟨h.x0, h.x1, h.y0, h.y1, h.s0, h.s1, h.c0, h.c1⟩
theorem hurts_none (e : L.hurts x y t c = none) : 0 ≤ x ∧ x < L.w ∧ 0 ≤ y ∧ y < L.h := by
  unfold Land.hurts at e
  split at e
  · cases e
  · rename_i z
    have z2 : L.has x y = true := by cases g : L.has x y with | false => exact absurd g z | true => rfl
    unfold Land.has at z2
    simp only [Bool.and_eq_true, decide_eq_true_eq] at z2
    omega
theorem hurts_word {v : Str} (e : L.hurts x y t c = some v) : v ∈ brWords := by
  unfold Land.hurts at e
  unfold brWords
  split at e
  · injection e with e; subst e; simp
  · split at e
    · injection e with e; subst e; simp
    · split at e
      · injection e with e; subst e; simp
      · split at e
        · injection e with e; subst e; simp
        · cases e
theorem stepF_ok {k : Tk} (hk : TkOk w h d k) (s0 : 0 ≤ s) (s1 : s ≤ lastF k) : 0 ≤ stepF k s x y t ∧ stepF k s x y t ≤ lastF k := by
  have z := hk.hrs
  cases k <;> simp only [stepF, lastF, Tk.hrs] at * <;> (try split) <;> (try split) <;> omega
theorem loadF_ok {k : Tk} (hk : TkOk w h d k) : 0 ≤ loadF k s := by
  have z := hk.hrs
  cases k <;> simp only [loadF, Tk.hrs] at * <;> (try split) <;> omega
theorem absZ_0 {i : Int} : 0 ≤ absZ i := by unfold absZ; split <;> omega
theorem agn_0 {i j : Int} : 0 ≤ agn i j := by unfold agn; split <;> omega
def Out.Ok (L : Land) (F : Flt) : Out → Prop
  | .st q => StOk L F q
  | .br v => v ∈ brWords
theorem beatF_ok {r : Row} {q : St} {wx wy : Int} (hF : FltOk L F) (hq : StOk L F q) : (beatF L F r b q wx wy).Ok L F := by
  have g0 := hF.fy.g0
  have f0 := hF.fy.f0
  have q0 := hq.c0
  have q1 := hq.c1
  unfold beatF
  have hc : ∀ th, carF L F r q wx wy = some th → th.c ≤ F.fy.f := by
    intro th e
    unfold carF at e
    split at e
    · split at e
      · cases e
      · injection e with e; subst e
        show (if q.c + F.fy.g < F.fy.f then q.c + F.fy.g else F.fy.f) ≤ _
        split <;> omega
    · injection e with e; subst e
      show q.c - costF F.task q.s (wishX L F r q.x) (wishY L F r q.y) wx wy ≤ _
      unfold costF
      have a1 := absZ_0 (i := wishX L F r q.x)
      have a2 := absZ_0 (i := wishY L F r q.y)
      have a3 := agn_0 (i := wishX L F r q.x) (j := wx)
      have a4 := agn_0 (i := wishY L F r q.y) (j := wy)
      have a5 := loadF_ok (s := q.s) hF.task
      omega
  cases e : carF L F r q wx wy with
  | none => show _ ∈ brWords; simp [brWords]
  | some th =>
    simp only []
    split
    · show _ ∈ brWords; simp [brWords]
    · unfold arrF
      cases e2 : L.hurts th.x th.y (b + 1) F.fy.c with
      | some v => exact hurts_word e2
      | none =>
        obtain ⟨b1, b2, b3, b4⟩ := hurts_none e2
        obtain ⟨s1, s2⟩ := stepF_ok (x := th.x) (y := th.y) (t := b + 1) hF.task hq.s0 hq.s1
        exact ⟨b1, b2, b3, b4, s1, s2, by show 0 ≤ th.c; omega, hc th e⟩
theorem StOk.rp {q : St} (ok : L.Ok) (hF : FltOk L F) (h : StOk L F q) : Rp q.t 63 1 := by
  refine Rp.ints (xs := [q.x, q.y, q.s, q.c]) fun x hx => ?_
  have w1 := ok.w1
  have h1 := ok.h1
  have lb := hF.task.last
  have a1 := h.x0
  have a2 := h.x1
  have a3 := h.y0
  have a4 := h.y1
  have a5 := h.s0
  have a6 := h.s1
  have a7 := h.c0
  have a8 := h.c1
  have a9 := hF.fy.f1
  unfold Sm
  simp only [List.mem_cons, List.not_mem_nil, or_false] at hx
  omega
theorem brWords_rp {v : Str} (h : v ∈ brWords) : Rp (.str v) 62 0 := by
  unfold brWords at h
  simp only [List.mem_cons, List.not_mem_nil, or_false] at h
  rcases h with rfl | rfl | rfl | rfl | rfl | rfl <;> exact Rp.wide (Rp.str (k := 0) (by decide)) (by decide) (by decide)
theorem Out.rp {o : Out} (ok : L.Ok) (hF : FltOk L F) (h : o.Ok L F) : Rp o.t 200 2 := by
  cases o with
  | st q => exact Rp.wide (Rp.tup (k := 1) (RpS.cons (StOk.rp ok hF h) (RpS.cons Rp.non RpS.nil))) (by decide) (by decide)
  | br v => exact Rp.wide (Rp.tup (k := 0) (RpS.cons Rp.non (RpS.cons (brWords_rp h) RpS.nil))) (by decide) (by decide)
theorem wind_rp {a b : Int} (ha : Sm2 a) (hb : Sm2 b) : Rp (.tup [.int a, .int b]) 33 1 := by
  refine Rp.ints (xs := [a, b]) fun x hx => ?_
  unfold Sm2 at ha hb
  unfold Sm
  simp only [List.mem_cons, List.not_mem_nil, or_false] at hx
  omega
end
end Wf
-- ENC2
set_option Elab.async false
set_option linter.all false
set_option maxRecDepth 100000
namespace Wf
open PySem L2
local macro_rules | `(tactic| simp_arith only [$xs,*]) => `(tactic| simp +decide only [Ok_cons, Ok_nil, SK_nx, SK_rt, FK_rt, FK_nx, evS, evE, evP, evEs, evQs, evPs, evO, evC, evI, evMs, setAll, ownS, Ok_bind, Ok_map, Ok_some, Ok_none, Ok_ite, getS, peekS, setS, wipeS, orc, permA, keyOf, List.map_cons, List.map_nil, List.cons_append, List.nil_append, List.append_nil, List.replicate, List.length_cons, List.length_nil, List.getElem?_cons_zero, List.getElem?_cons_succ, List.set_cons_zero, List.set_cons_succ, Option.map_some, Option.bind_some, Option.map_none, Option.bind_none, asgT, asgTs, sq_t, sq_l, Ts.len, starD, List.take_succ_cons, List.take_zero, List.drop_succ_cons, List.drop_zero, List.take_nil, List.drop_nil, List.flatten_cons, List.flatten_nil, List.foldl_cons, List.foldl_nil, tp_n, tp_b, tp_i, tp_s, tp_t, tp_l, tp_d, tp_k, tp_c, tp_r0, tp_r1, ix_l, ix_t, ix_k, ix_d, ix_di, at0, at1, at2, at3, at4, at5, at6, at7, atm1, atm2, atm3, b_add, b_sub, b_mul, b_div, b_mod, b_pow, b_addT, b_addL, b_mulL, c_lt, c_le, c_gt, c_ge, c_eq, c_ne, c_eqs, c_nes, c_is, c_isnt, n_n, n_t, n_i, n_l, bl_b, int_i, f_len, f_lenT, f_min, f_max, f_min3, f_max3, f_abs, f_intB, f_int, f_tup, f_tupT, f_lst, f_lstT, f_sum, r_l0, r_l1, ints_map, c_neNil, c_eqNil, c_ne00, sz0, pt0, pt1, pt2, isi_i, isi_t, isi_n, isi_b, isi_l, isi_s, cutT, cutL, cut_to, cut_from, fold_and, fold_or, fold_ite, fold_iteI, fold_iteB, fold_flt, ite_bF, ite_bT, szle, szlt, sm62_i, tp_Bx, sq_Bx, ix_Bx_0, ix_Bx_1, ix_Bx_2, ix_Bx_3, ix_Bx_m1, ix_Bx_m2, ix_Bx_m3, len_Bx, non_Bx, tp_Rm, sq_Rm, ix_Rm_0, ix_Rm_1, ix_Rm_2, ix_Rm_3, ix_Rm_4, ix_Rm_5, ix_Rm_m1, ix_Rm_m2, ix_Rm_m3, len_Rm, non_Rm, tp_Pd, sq_Pd, ix_Pd_0, ix_Pd_1, ix_Pd_2, ix_Pd_3, ix_Pd_4, ix_Pd_m1, ix_Pd_m2, ix_Pd_m3, len_Pd, non_Pd, tp_Fy, sq_Fy, ix_Fy_0, ix_Fy_1, ix_Fy_2, ix_Fy_3, ix_Fy_m1, ix_Fy_m2, ix_Fy_m3, len_Fy, non_Fy, tp_St, sq_St, ix_St_0, ix_St_1, ix_St_2, ix_St_3, ix_St_m1, ix_St_m2, ix_St_m3, len_St, non_St, tp_Flt, sq_Flt, ix_Flt_0, ix_Flt_1, ix_Flt_2, ix_Flt_3, ix_Flt_4, ix_Flt_m1, ix_Flt_m2, ix_Flt_m3, len_Flt, non_Flt, tp_Ld, ix_Ld_w, ix_Ld_h, ix_Ld_d, ix_Ld_hs, ix_Ld_bar, ix_Ld_peo, ix_Ld_pads, tp_hs, tp_Tk, tp_Row, tp_way, sq_way, len_way, non_Row, reduceIte, if_true, if_false, ite_true, ite_false, if_false_right, if_false_left, decide_eq_true_eq, Bool.not_eq_true', Bool.not_true, Bool.not_false, decide_eq_false_iff_not, Bool.false_eq_true, Bool.true_and, Bool.and_true, Bool.false_and, Bool.and_false, Bool.or_true, Bool.or_false, Bool.false_or, Bool.true_or, reduceCtorEq, true_and, and_true, Int.reduceLT, Int.reduceLE, Int.reducePow, Int.reduceNeg, Int.reduceMul, Int.reduceAdd, Int.reduceSub, Int.reduceToNat, Int.reduceEq, na10, Nat.reducePow, Nat.reduceLT, Nat.reduceLeDiff, Nat.reduceAdd, Nat.reduceSub, true_or, or_true, and_self, decide_true, decide_false, Bool.decide_eq_true, Bool.and_self, Bool.not_not, eq_self, not_true_eq_false, not_false_eq_true, $xs,*])
local macro_rules | `(tactic| simp_arith only [$xs,*] at $h:ident) => `(tactic| simp +decide only [Ok_cons, Ok_nil, SK_nx, SK_rt, FK_rt, FK_nx, evS, evE, evP, evEs, evQs, evPs, evO, evC, evI, evMs, setAll, ownS, Ok_bind, Ok_map, Ok_some, Ok_none, Ok_ite, getS, peekS, setS, wipeS, orc, permA, keyOf, List.map_cons, List.map_nil, List.cons_append, List.nil_append, List.append_nil, List.replicate, List.length_cons, List.length_nil, List.getElem?_cons_zero, List.getElem?_cons_succ, List.set_cons_zero, List.set_cons_succ, Option.map_some, Option.bind_some, Option.map_none, Option.bind_none, asgT, asgTs, sq_t, sq_l, Ts.len, starD, List.take_succ_cons, List.take_zero, List.drop_succ_cons, List.drop_zero, List.take_nil, List.drop_nil, List.flatten_cons, List.flatten_nil, List.foldl_cons, List.foldl_nil, tp_n, tp_b, tp_i, tp_s, tp_t, tp_l, tp_d, tp_k, tp_c, tp_r0, tp_r1, ix_l, ix_t, ix_k, ix_d, ix_di, at0, at1, at2, at3, at4, at5, at6, at7, atm1, atm2, atm3, b_add, b_sub, b_mul, b_div, b_mod, b_pow, b_addT, b_addL, b_mulL, c_lt, c_le, c_gt, c_ge, c_eq, c_ne, c_eqs, c_nes, c_is, c_isnt, n_n, n_t, n_i, n_l, bl_b, int_i, f_len, f_lenT, f_min, f_max, f_min3, f_max3, f_abs, f_intB, f_int, f_tup, f_tupT, f_lst, f_lstT, f_sum, r_l0, r_l1, ints_map, c_neNil, c_eqNil, c_ne00, sz0, pt0, pt1, pt2, isi_i, isi_t, isi_n, isi_b, isi_l, isi_s, cutT, cutL, cut_to, cut_from, fold_and, fold_or, fold_ite, fold_iteI, fold_iteB, fold_flt, ite_bF, ite_bT, szle, szlt, sm62_i, tp_Bx, sq_Bx, ix_Bx_0, ix_Bx_1, ix_Bx_2, ix_Bx_3, ix_Bx_m1, ix_Bx_m2, ix_Bx_m3, len_Bx, non_Bx, tp_Rm, sq_Rm, ix_Rm_0, ix_Rm_1, ix_Rm_2, ix_Rm_3, ix_Rm_4, ix_Rm_5, ix_Rm_m1, ix_Rm_m2, ix_Rm_m3, len_Rm, non_Rm, tp_Pd, sq_Pd, ix_Pd_0, ix_Pd_1, ix_Pd_2, ix_Pd_3, ix_Pd_4, ix_Pd_m1, ix_Pd_m2, ix_Pd_m3, len_Pd, non_Pd, tp_Fy, sq_Fy, ix_Fy_0, ix_Fy_1, ix_Fy_2, ix_Fy_3, ix_Fy_m1, ix_Fy_m2, ix_Fy_m3, len_Fy, non_Fy, tp_St, sq_St, ix_St_0, ix_St_1, ix_St_2, ix_St_3, ix_St_m1, ix_St_m2, ix_St_m3, len_St, non_St, tp_Flt, sq_Flt, ix_Flt_0, ix_Flt_1, ix_Flt_2, ix_Flt_3, ix_Flt_4, ix_Flt_m1, ix_Flt_m2, ix_Flt_m3, len_Flt, non_Flt, tp_Ld, ix_Ld_w, ix_Ld_h, ix_Ld_d, ix_Ld_hs, ix_Ld_bar, ix_Ld_peo, ix_Ld_pads, tp_hs, tp_Tk, tp_Row, tp_way, sq_way, len_way, non_Row, reduceIte, if_true, if_false, ite_true, ite_false, if_false_right, if_false_left, decide_eq_true_eq, Bool.not_eq_true', Bool.not_true, Bool.not_false, decide_eq_false_iff_not, Bool.false_eq_true, Bool.true_and, Bool.and_true, Bool.false_and, Bool.and_false, Bool.or_true, Bool.or_false, Bool.false_or, Bool.true_or, reduceCtorEq, true_and, and_true, Int.reduceLT, Int.reduceLE, Int.reducePow, Int.reduceNeg, Int.reduceMul, Int.reduceAdd, Int.reduceSub, Int.reduceToNat, Int.reduceEq, na10, Nat.reducePow, Nat.reduceLT, Nat.reduceLeDiff, Nat.reduceAdd, Nat.reduceSub, true_or, or_true, and_self, decide_true, decide_false, Bool.decide_eq_true, Bool.and_self, Bool.not_not, eq_self, not_true_eq_false, not_false_eq_true, $xs,*] at $h:ident)
local macro_rules | `(tactic| simp_arith [$xs,*]) => `(tactic| repeat (first | with_reducible (refine SKn ?_) | with_reducible (refine SKr ?_) | with_reducible (refine Okc ?_) | with_reducible (refine Okn ?_) | with_reducible (refine FRn ?_) | with_reducible (refine FRr ?_) | with_reducible (refine fr_cons ?_) | with_reducible (refine fr_nil ?_) | simp +decide only [FK_rt, FK_nx, evS, evE, evP, evEs, evQs, evPs, evO, evC, evI, evMs, setAll, ownS, Ok_bind, Ok_map, Ok_some, Ok_none, Ok_ite, getS, peekS, setS, wipeS, orc, permA, keyOf, List.map_cons, List.map_nil, List.cons_append, List.nil_append, List.append_nil, List.replicate, List.length_cons, List.length_nil, List.getElem?_cons_zero, List.getElem?_cons_succ, List.set_cons_zero, List.set_cons_succ, Option.map_some, Option.bind_some, Option.map_none, Option.bind_none, asgT, asgTs, sq_t, sq_l, Ts.len, starD, List.take_succ_cons, List.take_zero, List.drop_succ_cons, List.drop_zero, List.take_nil, List.drop_nil, List.flatten_cons, List.flatten_nil, List.foldl_cons, List.foldl_nil, tp_n, tp_b, tp_i, tp_s, tp_t, tp_l, tp_d, tp_k, tp_c, tp_r0, tp_r1, ix_l, ix_t, ix_k, ix_d, ix_di, at0, at1, at2, at3, at4, at5, at6, at7, atm1, atm2, atm3, b_add, b_sub, b_mul, b_div, b_mod, b_pow, b_addT, b_addL, b_mulL, c_lt, c_le, c_gt, c_ge, c_eq, c_ne, c_eqs, c_nes, c_is, c_isnt, n_n, n_t, n_i, n_l, bl_b, int_i, f_len, f_lenT, f_min, f_max, f_min3, f_max3, f_abs, f_intB, f_int, f_tup, f_tupT, f_lst, f_lstT, f_sum, r_l0, r_l1, ints_map, c_neNil, c_eqNil, c_ne00, sz0, pt0, pt1, pt2, isi_i, isi_t, isi_n, isi_b, isi_l, isi_s, cutT, cutL, cut_to, cut_from, fold_and, fold_or, fold_ite, fold_iteI, fold_iteB, fold_flt, ite_bF, ite_bT, szle, szlt, sm62_i, tp_Bx, sq_Bx, ix_Bx_0, ix_Bx_1, ix_Bx_2, ix_Bx_3, ix_Bx_m1, ix_Bx_m2, ix_Bx_m3, len_Bx, non_Bx, tp_Rm, sq_Rm, ix_Rm_0, ix_Rm_1, ix_Rm_2, ix_Rm_3, ix_Rm_4, ix_Rm_5, ix_Rm_m1, ix_Rm_m2, ix_Rm_m3, len_Rm, non_Rm, tp_Pd, sq_Pd, ix_Pd_0, ix_Pd_1, ix_Pd_2, ix_Pd_3, ix_Pd_4, ix_Pd_m1, ix_Pd_m2, ix_Pd_m3, len_Pd, non_Pd, tp_Fy, sq_Fy, ix_Fy_0, ix_Fy_1, ix_Fy_2, ix_Fy_3, ix_Fy_m1, ix_Fy_m2, ix_Fy_m3, len_Fy, non_Fy, tp_St, sq_St, ix_St_0, ix_St_1, ix_St_2, ix_St_3, ix_St_m1, ix_St_m2, ix_St_m3, len_St, non_St, tp_Flt, sq_Flt, ix_Flt_0, ix_Flt_1, ix_Flt_2, ix_Flt_3, ix_Flt_4, ix_Flt_m1, ix_Flt_m2, ix_Flt_m3, len_Flt, non_Flt, tp_Ld, ix_Ld_w, ix_Ld_h, ix_Ld_d, ix_Ld_hs, ix_Ld_bar, ix_Ld_peo, ix_Ld_pads, tp_hs, tp_Tk, tp_Row, tp_way, sq_way, len_way, non_Row, reduceIte, if_true, if_false, ite_true, ite_false, if_false_right, if_false_left, decide_eq_true_eq, Bool.not_eq_true', Bool.not_true, Bool.not_false, decide_eq_false_iff_not, Bool.false_eq_true, Bool.true_and, Bool.and_true, Bool.false_and, Bool.and_false, Bool.or_true, Bool.or_false, Bool.false_or, Bool.true_or, reduceCtorEq, true_and, and_true, Int.reduceLT, Int.reduceLE, Int.reducePow, Int.reduceNeg, Int.reduceMul, Int.reduceAdd, Int.reduceSub, Int.reduceToNat, Int.reduceEq, na10, Nat.reducePow, Nat.reduceLT, Nat.reduceLeDiff, Nat.reduceAdd, Nat.reduceSub, true_or, or_true, and_self, decide_true, decide_false, Bool.decide_eq_true, Bool.and_self, Bool.not_not, eq_self, not_true_eq_false, not_false_eq_true, $xs,*]))
/-- a loop over items, by those that are left -/
theorem Ok_frT {β : Type} {enc : β → D} {f : D → Env → Sto → Option Fl} {K : Fl → Prop} (I : List β → Env → Sto → Prop) : ∀ {xs : List β} {env : Env} {S : Sto}, I xs env S →
    (∀ x r env S, I (x :: r) env S → Ok (f (enc x) env S) fun fl => match fl with | .nx env' S' => I r env' S' | .rt d S' => K (.rt d S')) →
    (∀ env S, I [] env S → K (.nx env S)) → Ok (frGo f (xs.map enc) env S) K
  | [], env, S, h0, _, he => ⟨_, rfl, he _ _ h0⟩
  | x :: r, env, S, h0, hs, he => by
    obtain ⟨fl, e, q⟩ := hs x r env S h0
    rw [List.map_cons]
    unfold Ok
    rw [frGo, e]
    cases fl with
    | nx e S' => exact Ok_frT I (xs := r) q hs he
    | rt d S' => exact ⟨_, rfl, q⟩
/-! ### winds -/
structure WR where
  rm : Rm
  a : Int
  b : Int
  c : Int
  d : Int
def WR.t (w : WR) : D := .tup [w.rm.t, .tup [.int w.a, .int w.b, .int w.c, .int w.d]]
structure WROk (L : Land) (w : WR) : Prop where
  rm : RmOk L.w L.h L.day w.rm
  a0 : -2 ≤ w.a
  ab : w.a ≤ w.b
  b1 : w.b ≤ 2
  c0 : -2 ≤ w.c
  cd : w.c ≤ w.d
  d1 : w.d ≤ 2
def wnT (W : List WR) : D := .tup (W.map WR.t)
def pr (p : Int × Int) : D := .tup [.int p.1, .int p.2]
def letF (a b c d : Int) : List (Int × Int) := (rangeZ a (b + 1)).flatMap fun x => (rangeZ c (d + 1)).map fun y => (x, y)
def windsF : List WR → Int → Int → Int → List (Int × Int)
  | [], _, _, _ => [(0, 0)]
  | w :: r, x, y, t => if w.rm.has x y t = true then letF w.a w.b w.c w.d else windsF r x y t
def PrOk (p : Int × Int) : Prop := (-2 ≤ p.1 ∧ p.1 ≤ 2) ∧ (-2 ≤ p.2 ∧ p.2 ≤ 2)
section
variable {a b c d : Int}
theorem letF_ok (a0 : -2 ≤ a) (b1 : b ≤ 2) (c0 : -2 ≤ c) (d1 : d ≤ 2) : ∀ p ∈ letF a b c d, PrOk p := by
  intro p hp
  unfold letF at hp
  obtain ⟨x, hx, h2⟩ := List.mem_flatMap.mp hp
  obtain ⟨y, hy, rfl⟩ := List.mem_map.mp h2
  rw [rangeZ_mem] at hx hy
  exact ⟨⟨by omega, by omega⟩, ⟨by omega, by omega⟩⟩
theorem letF_len (a0 : -2 ≤ a) (ab : a ≤ b) (b1 : b ≤ 2) (c0 : -2 ≤ c) (cd : c ≤ d) (d1 : d ≤ 2) : 0 < (letF a b c d).length ∧ (letF a b c d).length ≤ 25 := by
  unfold letF
  constructor
  · rw [rangeZ_cons (lo := a) (hi := b + 1) (by omega), rangeZ_cons (lo := c) (hi := d + 1) (by omega)]
    simp
  · have h1 : ∀ {l : List Int}, (l.flatMap fun x => (rangeZ c (d + 1)).map fun y => (x, y)).length = l.length * (d + 1 - c).toNat := by
      intro l
      induction l with
      | nil => simp
      | cons z r ih => rw [List.flatMap_cons, List.length_append, ih, List.length_map, rangeZ_len, List.length_cons, Nat.succ_mul]; omega
    rw [h1, rangeZ_len]
    have h2 : (b + 1 - a).toNat ≤ 5 := by omega
    have h3 : (d + 1 - c).toNat ≤ 5 := by omega
    exact Nat.mul_le_mul h2 h3
theorem windsF_ok {L : Land} {x y t : Int} : ∀ {W : List WR}, (∀ w ∈ W, WROk L w) → (∀ p ∈ windsF W x y t, PrOk p) ∧ 0 < (windsF W x y t).length ∧ (windsF W x y t).length ≤ 25
  | [], _ => ⟨by intro p hp; rw [windsF] at hp; rw [List.mem_singleton.mp hp]; exact ⟨⟨by decide, by decide⟩, ⟨by decide, by decide⟩⟩, by rw [windsF]; decide, by rw [windsF]; decide⟩
  | w :: r, h => by
    rw [windsF]
    have o := h w List.mem_cons_self
    split
    · exact ⟨letF_ok o.a0 o.b1 o.c0 o.d1, letF_len o.a0 o.ab o.b1 o.c0 o.cd o.d1⟩
    · exact windsF_ok fun z hz => h z (List.mem_cons_of_mem _ hz)
/-- the winds by one number each -/
theorem letF_num {D : Int} (hD : 0 < D) : ∀ m : Nat, (rangeZ 0 (m * D)).map (fun k => (k / D + a, k % D + c)) = (rangeZ a (a + m)).flatMap fun x => (rangeZ c (c + D)).map fun y => (x, y)
  | 0 => by rw [rangeZ_nil (lo := 0) (by simp), rangeZ_nil (lo := a) (by simp)]; rfl
  | m + 1 => by
    have ih := letF_num hD m
    have e1 : rangeZ 0 (((m + 1 : Nat) : Int) * D) = rangeZ 0 (m * D) ++ rangeZ (m * D) (m * D + D) := by
      have h0 : (0 : Int) ≤ m * D := Int.mul_nonneg (by omega) (by omega)
      have h1 : ((m + 1 : Nat) : Int) * D = m * D + D := by rw [Int.natCast_add, Int.add_mul]; simp
      rw [h1]
      unfold rangeZ
      generalize (m : Int) * D = z at h0
      have e : (z + D - 0).toNat = (z - 0).toNat + (z + D - z).toNat := by omega
      rw [e, List.range_add, List.map_append, List.map_map]
      congr 1
      apply List.map_congr_left
      intro k _
      simp only [Function.comp]
      omega
    have e2 : rangeZ a (a + ((m + 1 : Nat) : Int)) = rangeZ a (a + m) ++ [a + m] := by
      have := rangeZ_snoc (lo := a) (hi := a + ((m + 1 : Nat) : Int)) (by omega)
      rw [this]
      have h : a + ((m + 1 : Nat) : Int) - 1 = a + m := by omega
      rw [h]
    rw [e1, e2, List.map_append, ih, List.flatMap_append]
    congr 1
    rw [List.flatMap_cons, List.flatMap_nil, List.append_nil]
    unfold rangeZ
    have e3 : ((m : Int) * D + D - m * D).toNat = (c + D - c).toNat := by omega
    rw [e3, List.map_map, List.map_map]
    apply List.map_congr_left
    intro k hk
    have hk2 := List.mem_range.mp hk
    simp only [Function.comp]
    have h1 : ((m : Int) * D + k) / D = m := by
      rw [Int.add_comm, Int.add_mul_ediv_right _ _ (by omega), Int.ediv_eq_zero_of_lt (by omega) (by omega)]; omega
    have h2 : ((m : Int) * D + k) % D = k := by
      rw [Int.add_comm, Int.add_mul_emod_self_right, Int.emod_eq_of_lt (by omega) (by omega)]
    rw [h1, h2]
    congr 1 <;> omega
theorem pr_cm {p : Int × Int} : Cm (pr p) 1 := Cm.tup (Cms.cons Cm.int (Cms.cons Cm.int Cms.nil))
theorem in_any {l : List (Int × Int)} : ∀ {ps : List PyData}, pdAll (l.map pr) = some ps → (ps.any fun z => PyData.eqv z (.tuple [.int a, .int b])) = decide ((a, b) ∈ l) := by
  induction l with
  | nil => intro ps h; cases h; simp
  | cons p r ih =>
    intro ps h
    rw [List.map_cons, pdAll] at h
    split at h
    · rename_i q qs e1 e2
      cases h
      rw [List.any_cons, ih e2]
      have e3 : PyData.eqv q (.tuple [.int a, .int b]) = dqv (pr p) (pr (a, b)) := eqv_dqv (pr p) (pr (a, b)) q _ e1 rfl
      rw [e3]
      have e4 : dqv (pr p) (pr (a, b)) = decide (p = (a, b)) := by
        unfold pr
        simp only [dqv, dqvs, Bool.and_true]
        obtain ⟨p1, p2⟩ := p
        simp only [Prod.mk.injEq]
        rw [Bool.eq_iff_iff]
        simp
      rw [e4, Bool.eq_iff_iff]
      simp only [Bool.or_eq_true, decide_eq_true_eq, List.mem_cons]
      constructor
      · rintro (h | h)
        · exact .inl h.symm
        · exact .inr h
      · rintro (h | h)
        · exact .inl h.symm
        · exact .inr h
    · cases h
theorem shp {d : D} {k : Nat} {p : PyData} (h : Cm d k) (hk : k ≤ 64) (e : d.pd = some p) : SeqAt.shaped p = true := by
  obtain ⟨p', e1, e2, e3⟩ := h
  rw [e] at e1
  cases e1
  unfold SeqAt.shaped
  rw [e2, Bool.true_and, decide_eq_true_eq]
  omega
theorem in_t {l : List (Int × Int)} : semCmp .In (.tup [.int a, .int b]) (.tup (l.map pr)) = some (decide ((a, b) ∈ l)) := by
  show semIn _ _ = _
  have c1 : Cms (l.map pr) 1 := Cms.map fun x _ => pr_cm
  obtain ⟨ps, e1, _, _⟩ := c1
  have e2 : (D.tup (l.map pr)).pd = some (.tuple ps) := by rw [D.pd, e1]; rfl
  have e3 : (D.tup [.int a, .int b]).pd = some (.tuple [.int a, .int b]) := rfl
  unfold semIn
  rw [e2, e3]
  simp only
  rw [shp (Cm.tup (Cms.map fun x (_ : x ∈ l) => pr_cm)) (by decide) e2, shp (pr_cm (p := (a, b))) (by decide) e3, in_any e1]
  rfl
theorem nin_l {l : List (Int × Int)} : semCmp .NotIn (.tup [.int a, .int b]) (.lst (l.map pr)) = some (!decide ((a, b) ∈ l)) := by
  show (semIn _ _).map (!·) = _
  have c1 : Cms (l.map pr) 1 := Cms.map fun x _ => pr_cm
  obtain ⟨ps, e1, _, _⟩ := c1
  have e2 : (D.lst (l.map pr)).pd = some (.list ps) := by rw [D.pd, e1]; rfl
  have e3 : (D.tup [.int a, .int b]).pd = some (.tuple [.int a, .int b]) := rfl
  unfold semIn
  rw [e2, e3]
  simp only
  rw [shp (Cm.lst (Cms.map fun x (_ : x ∈ l) => pr_cm)) (by decide) e2, shp (pr_cm (p := (a, b))) (by decide) e3, in_any e1]
  rfl
end
section
variable {P : Prg} [HasF P Gk37] [HasF P Gk07] [HasF P Gk08] [HasF P Gk09] {n i : Nat} {R S : Sto} {w h d x y t m c : Int} {L : Land} {F : Flt} {s b a : Int} {Q : D × Sto → Prop} {W : List WR}
theorem let_by_eq (a0 : -2 ≤ a) (ab : a ≤ b) (b1 : b ≤ 2) (c0 : -2 ≤ c) (cd : c ≤ d) (d1 : d ≤ 2) : callN P (n + 1) 75 [.tup [.int a, .int b, .int c, .int d]] S = some (.tup ((letF a b c d).map pr), S) := by
  refine eq_of_Ok (Ok_call (f := ⟨1, 7, b75⟩) hf75 rfl ?_)
  unfold b75
  simp_arith [rangeD_map, sm62_i (show -1000000 ≤ a by omega) (show a ≤ 1000000 by omega), sm62_i (show -1000000 ≤ b + 1 by omega) (show b + 1 ≤ 1000000 by omega)]
  have hl := (letF_len a0 ab b1 c0 cd d1).2
  have e1 : (letF a b c d).map pr = (rangeZ a (b + 1)).flatMap fun x => (rangeZ c (d + 1)).map fun y => pr (x, y) := by
    unfold letF
    rw [List.map_flatMap]
    simp only [List.map_map]
    rfl
  rw [la_map (enc := D.int) (g := fun x => (rangeZ c (d + 1)).map fun y => pr (x, y)) 25 (by rw [← e1, List.length_map, List.length_nil]; omega) fun x hx acc hB => by
    simp_arith only [rangeD_map, sm62_i (show -1000000 ≤ c by omega) (show c ≤ 1000000 by omega), sm62_i (show -1000000 ≤ d + 1 by omega) (show d + 1 ≤ 1000000 by omega)]
    rw [List.length_map] at hB
    rw [lc_map (enc := D.int) (g := fun y => pr (x, y)) (by unfold sizeLine; omega) fun y hy => rfl]]
  simp_arith [e1]
theorem winds_at_eq (hW : ∀ w ∈ W, WROk L w) : callN P (n + 3) 76 [wnT W, .int x, .int y, .int t] S = some (.tup ((windsF W x y t).map pr), S) := by
  refine eq_of_Ok (Ok_call (f := ⟨4, 6, b76⟩) hf76 rfl ?_)
  unfold b76
  unfold wnT
  simp_arith []
  refine Ok_frT (enc := WR.t) (fun r env S' => S' = S ∧ (∀ w ∈ r, WROk L w) ∧ windsF W x y t = windsF r x y t ∧ ∃ a4 a5, env = [.fz (.tup (W.map WR.t)), .fz (.int x), .fz (.int y), .fz (.int t), a4, a5]) ⟨rfl, hW, rfl, _, _, rfl⟩ ?_ ?_
  · rintro w r env S' ⟨rfl, hr, e, a4, a5, rfl⟩
    have o := hr w List.mem_cons_self
    unfold WR.t
    rw [windsF] at e
    cases c1 : w.rm.has x y t with
    | true =>
      rw [c1, if_pos rfl] at e
      simp_arith [is_in_eq, c1, let_by_eq o.a0 o.ab o.b1 o.c0 o.cd o.d1, e]
    | false =>
      rw [c1, if_neg (by decide)] at e
      simp_arith [is_in_eq, c1]
      exact ⟨fun z hz => hr z (List.mem_cons_of_mem _ hz), e, _, _, rfl⟩
  · rintro env S' ⟨rfl, hr, e, a4, a5, rfl⟩
    simp_arith []
    rw [e]
    rfl
theorem lwinds_at_eq (hW : ∀ w ∈ W, WROk L w) : callN P (n + 2) 87 [wnT W, .int x, .int y, .int t] S = some (.lst ((windsF W x y t).map pr), S) := by
  refine eq_of_Ok (Ok_call (f := ⟨4, 10, b87⟩) hf87 rfl ?_)
  unfold b87
  unfold wnT
  simp_arith []
  refine Ok_frT (enc := WR.t) (fun r env S' => S' = S ∧ (∀ w ∈ r, WROk L w) ∧ windsF W x y t = windsF r x y t ∧ ∃ a4 a5 a6 a7 a8 a9, env = [.fz (.tup (W.map WR.t)), .fz (.int x), .fz (.int y), .fz (.int t), a4, a5, a6, a7, a8, a9]) ⟨rfl, hW, rfl, _, _, _, _, _, _, rfl⟩ ?_ ?_
  · rintro w r env S' ⟨rfl, hr, e, a4, a5, a6, a7, a8, a9, rfl⟩
    have o := hr w List.mem_cons_self
    obtain ⟨_, a0, ab, b1, c0, cd, d1⟩ := o
    unfold WR.t
    rw [windsF] at e
    cases c1 : w.rm.has x y t with
    | true =>
      rw [c1, if_pos rfl] at e
      have c2 := c1
      unfold Rm.has at c2
      rw [Bool.and_eq_true] at c2
      have hD : 0 < w.d - w.c + 1 := by omega
      have hD2 : w.d - w.c + 1 < 1073741824 := by omega
      have e0 := letF_num (a := w.a) (c := w.c) hD (w.b - w.a + 1).toNat
      have e1 : (((w.b - w.a + 1).toNat : Nat) : Int) = w.b - w.a + 1 := by omega
      have e2 : w.a + (w.b - w.a + 1) = w.b + 1 := by omega
      have e3 : w.c + (w.d - w.c + 1) = w.d + 1 := by omega
      rw [e1, e2, e3] at e0
      have m0 : 0 ≤ (w.b - w.a + 1) * (w.d - w.c + 1) := Int.mul_nonneg (by omega) (by omega)
      have m1 : (w.b - w.a + 1) * (w.d - w.c + 1) ≤ 5 * 5 := Int.mul_le_mul (by omega) (by omega) (by omega) (by omega)
      have m2 : -(2 ^ 64) < w.b - w.a + 1 ∧ w.b - w.a + 1 < 2 ^ 64 := ⟨by omega, by omega⟩
      simp_arith [lhas_R, c2.1, c2.2, m2, rangeD_map, sm62_i (show -1000000 ≤ (w.b - w.a + 1) * (w.d - w.c + 1) by omega) (show (w.b - w.a + 1) * (w.d - w.c + 1) ≤ 1000000 by omega)]
      refine ⟨.inl m2, ?_⟩
      rw [lc_map (enc := D.int) (g := fun k => pr (k / (w.d - w.c + 1) + w.a, k % (w.d - w.c + 1) + w.c)) (by rw [List.length_nil, rangeZ_len]; unfold sizeLine; omega) fun k hk => by (simp_arith only [hD, hD2]) <;> rfl]
      simp_arith []
      rw [e]
      unfold letF
      rw [← e0, List.map_map]
      rfl
    | false =>
      rw [c1, if_neg (by decide)] at e
      have c2 := c1
      unfold Rm.has at c2
      cases c3 : inB w.rm.a w.rm.b w.rm.c w.rm.d x y with
      | false =>
        simp_arith [lhas_R, c3]
        exact ⟨fun z hz => hr z (List.mem_cons_of_mem _ hz), e, _, _, _, _, _, _, rfl⟩
      | true =>
        rw [c3, Bool.true_and] at c2
        simp_arith [lhas_R, c3, c2]
        exact ⟨fun z hz => hr z (List.mem_cons_of_mem _ hz), e, _, _, _, _, _, _, rfl⟩
  · rintro env S' ⟨rfl, hr, e, a4, a5, a6, a7, a8, a9, rfl⟩
    simp_arith []
    rw [e]
    rfl
/-! ### home -/
def homeF (L : Land) (F : Flt) (x y : Int) : Bool := decide ((L.padAt x y).map (fun j => (j : Int)) = some F.home)
theorem is_home_eq {q : St} (hL : LdAt S i L) (ok : L.Ok) : callN P (n + 3) 77 [.ref i, F.t, q.t] S = some (.bl (homeF L F q.x q.y), S) := by
  refine eq_of_Ok (Ok_call (f := ⟨3, 3, b77⟩) hf77 rfl ?_)
  unfold b77
  have f1 : L.fs.lookup ("pad_at" : Str) = none := rfl
  simp_arith [refI_is hL, f1, pad_at_eq hL ok, tp_pad, c_pad]
  rfl
theorem lhome_at_eq (ok : L.Ok) : callN P (n + 3) 88 [L.dct, F.t, .int x, .int y] S = some (.bl (homeF L F x y), S) := by
  refine eq_of_Ok (Ok_call (f := ⟨4, 4, b88⟩) hf88 rfl ?_)
  unfold b88
  simp_arith [lpad_at_eq ok, tp_pad, c_pad]
  rfl
end
end Wf
-- ENC2
set_option Elab.async false
set_option linter.all false
set_option maxRecDepth 100000
namespace Wf
open PySem L2
local macro_rules | `(tactic| simp_arith only [$xs,*]) => `(tactic| simp +decide only [Ok_cons, Ok_nil, SK_nx, SK_rt, FK_rt, FK_nx, evS, evE, evP, evEs, evQs, evPs, evO, evC, evI, evMs, setAll, ownS, Ok_bind, Ok_map, Ok_some, Ok_none, Ok_ite, getS, peekS, setS, wipeS, orc, permA, keyOf, List.map_cons, List.map_nil, List.cons_append, List.nil_append, List.append_nil, List.replicate, List.length_cons, List.length_nil, List.getElem?_cons_zero, List.getElem?_cons_succ, List.set_cons_zero, List.set_cons_succ, Option.map_some, Option.bind_some, Option.map_none, Option.bind_none, asgT, asgTs, sq_t, sq_l, Ts.len, starD, List.take_succ_cons, List.take_zero, List.drop_succ_cons, List.drop_zero, List.take_nil, List.drop_nil, List.flatten_cons, List.flatten_nil, List.foldl_cons, List.foldl_nil, tp_n, tp_b, tp_i, tp_s, tp_t, tp_l, tp_d, tp_k, tp_c, tp_r0, tp_r1, ix_l, ix_t, ix_k, ix_d, ix_di, at0, at1, at2, at3, at4, at5, at6, at7, atm1, atm2, atm3, b_add, b_sub, b_mul, b_div, b_mod, b_pow, b_addT, b_addL, b_mulL, c_lt, c_le, c_gt, c_ge, c_eq, c_ne, c_eqs, c_nes, c_is, c_isnt, n_n, n_t, n_i, n_l, bl_b, int_i, f_len, f_lenT, f_min, f_max, f_min3, f_max3, f_abs, f_intB, f_int, f_tup, f_tupT, f_lst, f_lstT, f_sum, r_l0, r_l1, ints_map, c_neNil, c_eqNil, c_ne00, sz0, pt0, pt1, pt2, isi_i, isi_t, isi_n, isi_b, isi_l, isi_s, cutT, cutL, cut_to, cut_from, fold_and, fold_or, fold_ite, fold_iteI, fold_iteB, fold_flt, ite_bF, ite_bT, szle, szlt, sm62_i, tp_Bx, sq_Bx, ix_Bx_0, ix_Bx_1, ix_Bx_2, ix_Bx_3, ix_Bx_m1, ix_Bx_m2, ix_Bx_m3, len_Bx, non_Bx, tp_Rm, sq_Rm, ix_Rm_0, ix_Rm_1, ix_Rm_2, ix_Rm_3, ix_Rm_4, ix_Rm_5, ix_Rm_m1, ix_Rm_m2, ix_Rm_m3, len_Rm, non_Rm, tp_Pd, sq_Pd, ix_Pd_0, ix_Pd_1, ix_Pd_2, ix_Pd_3, ix_Pd_4, ix_Pd_m1, ix_Pd_m2, ix_Pd_m3, len_Pd, non_Pd, tp_Fy, sq_Fy, ix_Fy_0, ix_Fy_1, ix_Fy_2, ix_Fy_3, ix_Fy_m1, ix_Fy_m2, ix_Fy_m3, len_Fy, non_Fy, tp_St, sq_St, ix_St_0, ix_St_1, ix_St_2, ix_St_3, ix_St_m1, ix_St_m2, ix_St_m3, len_St, non_St, tp_Flt, sq_Flt, ix_Flt_0, ix_Flt_1, ix_Flt_2, ix_Flt_3, ix_Flt_4, ix_Flt_m1, ix_Flt_m2, ix_Flt_m3, len_Flt, non_Flt, tp_Ld, ix_Ld_w, ix_Ld_h, ix_Ld_d, ix_Ld_hs, ix_Ld_bar, ix_Ld_peo, ix_Ld_pads, tp_hs, tp_Tk, tp_Row, tp_way, sq_way, len_way, non_Row, reduceIte, if_true, if_false, ite_true, ite_false, if_false_right, if_false_left, decide_eq_true_eq, Bool.not_eq_true', Bool.not_true, Bool.not_false, decide_eq_false_iff_not, Bool.false_eq_true, Bool.true_and, Bool.and_true, Bool.false_and, Bool.and_false, Bool.or_true, Bool.or_false, Bool.false_or, Bool.true_or, reduceCtorEq, true_and, and_true, Int.reduceLT, Int.reduceLE, Int.reducePow, Int.reduceNeg, Int.reduceMul, Int.reduceAdd, Int.reduceSub, Int.reduceToNat, Int.reduceEq, na10, Nat.reducePow, Nat.reduceLT, Nat.reduceLeDiff, Nat.reduceAdd, Nat.reduceSub, true_or, or_true, and_self, decide_true, decide_false, Bool.decide_eq_true, Bool.and_self, Bool.not_not, eq_self, not_true_eq_false, not_false_eq_true, $xs,*])
local macro_rules | `(tactic| simp_arith only [$xs,*] at $h:ident) => `(tactic| simp +decide only [Ok_cons, Ok_nil, SK_nx, SK_rt, FK_rt, FK_nx, evS, evE, evP, evEs, evQs, evPs, evO, evC, evI, evMs, setAll, ownS, Ok_bind, Ok_map, Ok_some, Ok_none, Ok_ite, getS, peekS, setS, wipeS, orc, permA, keyOf, List.map_cons, List.map_nil, List.cons_append, List.nil_append, List.append_nil, List.replicate, List.length_cons, List.length_nil, List.getElem?_cons_zero, List.getElem?_cons_succ, List.set_cons_zero, List.set_cons_succ, Option.map_some, Option.bind_some, Option.map_none, Option.bind_none, asgT, asgTs, sq_t, sq_l, Ts.len, starD, List.take_succ_cons, List.take_zero, List.drop_succ_cons, List.drop_zero, List.take_nil, List.drop_nil, List.flatten_cons, List.flatten_nil, List.foldl_cons, List.foldl_nil, tp_n, tp_b, tp_i, tp_s, tp_t, tp_l, tp_d, tp_k, tp_c, tp_r0, tp_r1, ix_l, ix_t, ix_k, ix_d, ix_di, at0, at1, at2, at3, at4, at5, at6, at7, atm1, atm2, atm3, b_add, b_sub, b_mul, b_div, b_mod, b_pow, b_addT, b_addL, b_mulL, c_lt, c_le, c_gt, c_ge, c_eq, c_ne, c_eqs, c_nes, c_is, c_isnt, n_n, n_t, n_i, n_l, bl_b, int_i, f_len, f_lenT, f_min, f_max, f_min3, f_max3, f_abs, f_intB, f_int, f_tup, f_tupT, f_lst, f_lstT, f_sum, r_l0, r_l1, ints_map, c_neNil, c_eqNil, c_ne00, sz0, pt0, pt1, pt2, isi_i, isi_t, isi_n, isi_b, isi_l, isi_s, cutT, cutL, cut_to, cut_from, fold_and, fold_or, fold_ite, fold_iteI, fold_iteB, fold_flt, ite_bF, ite_bT, szle, szlt, sm62_i, tp_Bx, sq_Bx, ix_Bx_0, ix_Bx_1, ix_Bx_2, ix_Bx_3, ix_Bx_m1, ix_Bx_m2, ix_Bx_m3, len_Bx, non_Bx, tp_Rm, sq_Rm, ix_Rm_0, ix_Rm_1, ix_Rm_2, ix_Rm_3, ix_Rm_4, ix_Rm_5, ix_Rm_m1, ix_Rm_m2, ix_Rm_m3, len_Rm, non_Rm, tp_Pd, sq_Pd, ix_Pd_0, ix_Pd_1, ix_Pd_2, ix_Pd_3, ix_Pd_4, ix_Pd_m1, ix_Pd_m2, ix_Pd_m3, len_Pd, non_Pd, tp_Fy, sq_Fy, ix_Fy_0, ix_Fy_1, ix_Fy_2, ix_Fy_3, ix_Fy_m1, ix_Fy_m2, ix_Fy_m3, len_Fy, non_Fy, tp_St, sq_St, ix_St_0, ix_St_1, ix_St_2, ix_St_3, ix_St_m1, ix_St_m2, ix_St_m3, len_St, non_St, tp_Flt, sq_Flt, ix_Flt_0, ix_Flt_1, ix_Flt_2, ix_Flt_3, ix_Flt_4, ix_Flt_m1, ix_Flt_m2, ix_Flt_m3, len_Flt, non_Flt, tp_Ld, ix_Ld_w, ix_Ld_h, ix_Ld_d, ix_Ld_hs, ix_Ld_bar, ix_Ld_peo, ix_Ld_pads, tp_hs, tp_Tk, tp_Row, tp_way, sq_way, len_way, non_Row, reduceIte, if_true, if_false, ite_true, ite_false, if_false_right, if_false_left, decide_eq_true_eq, Bool.not_eq_true', Bool.not_true, Bool.not_false, decide_eq_false_iff_not, Bool.false_eq_true, Bool.true_and, Bool.and_true, Bool.false_and, Bool.and_false, Bool.or_true, Bool.or_false, Bool.false_or, Bool.true_or, reduceCtorEq, true_and, and_true, Int.reduceLT, Int.reduceLE, Int.reducePow, Int.reduceNeg, Int.reduceMul, Int.reduceAdd, Int.reduceSub, Int.reduceToNat, Int.reduceEq, na10, Nat.reducePow, Nat.reduceLT, Nat.reduceLeDiff, Nat.reduceAdd, Nat.reduceSub, true_or, or_true, and_self, decide_true, decide_false, Bool.decide_eq_true, Bool.and_self, Bool.not_not, eq_self, not_true_eq_false, not_false_eq_true, $xs,*] at $h:ident)
local macro_rules | `(tactic| simp_arith [$xs,*]) => `(tactic| repeat (first | with_reducible (refine SKn ?_) | with_reducible (refine SKr ?_) | with_reducible (refine Okc ?_) | with_reducible (refine Okn ?_) | with_reducible (refine FRn ?_) | with_reducible (refine FRr ?_) | with_reducible (refine fr_cons ?_) | with_reducible (refine fr_nil ?_) | simp +decide only [FK_rt, FK_nx, evS, evE, evP, evEs, evQs, evPs, evO, evC, evI, evMs, setAll, ownS, Ok_bind, Ok_map, Ok_some, Ok_none, Ok_ite, getS, peekS, setS, wipeS, orc, permA, keyOf, List.map_cons, List.map_nil, List.cons_append, List.nil_append, List.append_nil, List.replicate, List.length_cons, List.length_nil, List.getElem?_cons_zero, List.getElem?_cons_succ, List.set_cons_zero, List.set_cons_succ, Option.map_some, Option.bind_some, Option.map_none, Option.bind_none, asgT, asgTs, sq_t, sq_l, Ts.len, starD, List.take_succ_cons, List.take_zero, List.drop_succ_cons, List.drop_zero, List.take_nil, List.drop_nil, List.flatten_cons, List.flatten_nil, List.foldl_cons, List.foldl_nil, tp_n, tp_b, tp_i, tp_s, tp_t, tp_l, tp_d, tp_k, tp_c, tp_r0, tp_r1, ix_l, ix_t, ix_k, ix_d, ix_di, at0, at1, at2, at3, at4, at5, at6, at7, atm1, atm2, atm3, b_add, b_sub, b_mul, b_div, b_mod, b_pow, b_addT, b_addL, b_mulL, c_lt, c_le, c_gt, c_ge, c_eq, c_ne, c_eqs, c_nes, c_is, c_isnt, n_n, n_t, n_i, n_l, bl_b, int_i, f_len, f_lenT, f_min, f_max, f_min3, f_max3, f_abs, f_intB, f_int, f_tup, f_tupT, f_lst, f_lstT, f_sum, r_l0, r_l1, ints_map, c_neNil, c_eqNil, c_ne00, sz0, pt0, pt1, pt2, isi_i, isi_t, isi_n, isi_b, isi_l, isi_s, cutT, cutL, cut_to, cut_from, fold_and, fold_or, fold_ite, fold_iteI, fold_iteB, fold_flt, ite_bF, ite_bT, szle, szlt, sm62_i, tp_Bx, sq_Bx, ix_Bx_0, ix_Bx_1, ix_Bx_2, ix_Bx_3, ix_Bx_m1, ix_Bx_m2, ix_Bx_m3, len_Bx, non_Bx, tp_Rm, sq_Rm, ix_Rm_0, ix_Rm_1, ix_Rm_2, ix_Rm_3, ix_Rm_4, ix_Rm_5, ix_Rm_m1, ix_Rm_m2, ix_Rm_m3, len_Rm, non_Rm, tp_Pd, sq_Pd, ix_Pd_0, ix_Pd_1, ix_Pd_2, ix_Pd_3, ix_Pd_4, ix_Pd_m1, ix_Pd_m2, ix_Pd_m3, len_Pd, non_Pd, tp_Fy, sq_Fy, ix_Fy_0, ix_Fy_1, ix_Fy_2, ix_Fy_3, ix_Fy_m1, ix_Fy_m2, ix_Fy_m3, len_Fy, non_Fy, tp_St, sq_St, ix_St_0, ix_St_1, ix_St_2, ix_St_3, ix_St_m1, ix_St_m2, ix_St_m3, len_St, non_St, tp_Flt, sq_Flt, ix_Flt_0, ix_Flt_1, ix_Flt_2, ix_Flt_3, ix_Flt_4, ix_Flt_m1, ix_Flt_m2, ix_Flt_m3, len_Flt, non_Flt, tp_Ld, ix_Ld_w, ix_Ld_h, ix_Ld_d, ix_Ld_hs, ix_Ld_bar, ix_Ld_peo, ix_Ld_pads, tp_hs, tp_Tk, tp_Row, tp_way, sq_way, len_way, non_Row, reduceIte, if_true, if_false, ite_true, ite_false, if_false_right, if_false_left, decide_eq_true_eq, Bool.not_eq_true', Bool.not_true, Bool.not_false, decide_eq_false_iff_not, Bool.false_eq_true, Bool.true_and, Bool.and_true, Bool.false_and, Bool.and_false, Bool.or_true, Bool.or_false, Bool.false_or, Bool.true_or, reduceCtorEq, true_and, and_true, Int.reduceLT, Int.reduceLE, Int.reducePow, Int.reduceNeg, Int.reduceMul, Int.reduceAdd, Int.reduceSub, Int.reduceToNat, Int.reduceEq, na10, Nat.reducePow, Nat.reduceLT, Nat.reduceLeDiff, Nat.reduceAdd, Nat.reduceSub, true_or, or_true, and_self, decide_true, decide_false, Bool.decide_eq_true, Bool.and_self, Bool.not_not, eq_self, not_true_eq_false, not_false_eq_true, $xs,*]))
/-! ### things that are no winds -/
def whD : D → Bool
  | .int _ => true
  | _ => false
def plD : D → Bool
  | .ref _ => false
  | .scr _ => false
  | .kdc _ => false
  | _ => true
inductive Odd : D → Prop
  | nt {d : D} : plD d = true → (∀ xs, d ≠ .tup xs) → Odd d
  | ln {xs : List D} : xs.length ≠ 2 → Odd (.tup xs)
  | el {x y : D} : plD x = true → plD y = true → Cm x 5 → Cm y 5 → (whD x && whD y) = false → Odd (.tup [x, y])
inductive Wi where
  | w (p : Int × Int) | o (d : D)
def Wi.t : Wi → D
  | .w p => pr p
  | .o d => d
def WiOk : Wi → Prop
  | .w p => PrOk p
  | .o d => Odd d
def wordN : Option Str → Bool := fun o => o.isNone
/-- the walk -/
def walkGo (L : Land) (F : Flt) (W : List WR) (s : Int) (t : Option Int) : List Wi → Int → List St → St → Option Str → Option (List St × Option Str)
  | [], b, pre, q, wd => some (pre ++ [q], if (wd.isNone && (decide (b = L.day) && !homeF L F q.x q.y)) = true then some "late" else wd)
  | it :: r, b, pre, q, wd => if (wd.isSome || decide (b = L.day)) = true then none else match it with
    | .o _ => none
    | .w p => if p ∈ windsF W q.x q.y b then match beatF L F (rowAt F s b t) b q p.1 p.2 with
        | .st q' => walkGo L F W s t r (b + 1) (pre ++ [q]) q' none
        | .br v => walkGo L F W s t r (b + 1) pre q (some v)
      else none
def resT : Option (List St × Option Str) → D
  | none => .non
  | some (l, w) => .tup [.tup (l.map St.t), wordT w]
section
variable {L : Land} {F : Flt} {W : List WR} {s b : Int} {t : Option Int}
theorem walk_nil {b : Int} {pre : List St} {q : St} {wd : Option Str} : walkGo L F W s t [] b pre q wd = some (pre ++ [q], if (wd.isNone && (decide (b = L.day) && !homeF L F q.x q.y)) = true then some ("late" : Str) else wd) := by
  rw [walkGo.eq_def]
theorem walk_cons {it : Wi} {r : List Wi} {b : Int} {pre : List St} {q : St} {wd : Option Str} : walkGo L F W s t (it :: r) b pre q wd = if (wd.isSome || decide (b = L.day)) = true then none else match it with
    | .o _ => none
    | .w p => if p ∈ windsF W q.x q.y b then match beatF L F (rowAt F s b t) b q p.1 p.2 with
        | .st q' => walkGo L F W s t r (b + 1) (pre ++ [q]) q' none
        | .br v => walkGo L F W s t r (b + 1) pre q (some v)
      else none := by
  rw [walkGo.eq_def]
theorem walk_long : ∀ {its : List Wi} {b : Int} {pre : List St} {q : St} {wd : Option Str}, b ≤ L.day → L.day - b < its.length → walkGo L F W s t its b pre q wd = none
  | [], b, pre, q, wd, h1, h2 => by simp at h2; omega
  | it :: r, b, pre, q, wd, h1, h2 => by
    rw [List.length_cons] at h2
    rw [walk_cons]
    split
    · rfl
    · rename_i c
      have c1 : b ≠ L.day := by
        intro z
        apply c
        simp [z]
      cases it with
      | o d => rfl
      | w p =>
        simp only
        split
        · split
          · exact walk_long (by omega) (by omega)
          · exact walk_long (by omega) (by omega)
        · rfl
end
/-! ### the walk's objects -/
def wkFs (i : Nat) (F : Flt) (s : Int) (t : Option Int) (b : Int) (j : Nat) (wd : Option Str) : List (Str × D) := [("land_below", .ref i), ("flight_gone", F.t), ("begun_at", .int s), ("turned_at", turnT t), ("beat_now", .int b), ("states_so_far", .ref j), ("word_now", wordT wd)]
def W1 (S0 : Sto) (o : List (Str × D)) : Sto := S0 ++ [.ins 1 o]
def W2 (S0 : Sto) (o : List (Str × D)) (xs : List D) : Sto := S0 ++ [.ins 1 o, .lst xs]
section
variable {S0 : Sto} {o o' : List (Str × D)} {xs ys : List D} {i j : Nat} {L : Land} {F : Flt} {s b : Int} {t : Option Int} {wd : Option Str}
theorem W1_refI : refI 1 (.ref S0.length) (W1 S0 o) = some (S0.length, o) := refI_is (by unfold W1; simp)
theorem W1_set : (W1 S0 o).set S0.length (.ins 1 o') = W1 S0 o' := by unfold W1; rw [List.set_append_right _ _ (Nat.le_refl _)]; simp
theorem W1_push : W1 S0 o ++ [.lst xs] = W2 S0 o xs := by unfold W1 W2; simp
theorem W1_len : (W1 S0 o).length = S0.length + 1 := by unfold W1; simp
theorem W2_refI : refI 1 (.ref S0.length) (W2 S0 o xs) = some (S0.length, o) := refI_is (by unfold W2; simp)
theorem W2_refL : refL (.ref (S0.length + 1)) (W2 S0 o xs) = some (S0.length + 1, xs) := by
  have h : (W2 S0 o xs)[S0.length + 1]? = some (.lst xs) := by unfold W2; rw [List.getElem?_append_right (by omega)]; simp
  show (match (W2 S0 o xs)[S0.length + 1]? with
    | some (.lst xs) => some (S0.length + 1, xs)
    | _ => none) = _
  rw [h]
theorem W2_top : top (W2 S0 o xs) (.ref (S0.length + 1)) = .lst xs := by
  have h : (W2 S0 o xs)[S0.length + 1]? = some (.lst xs) := by unfold W2; rw [List.getElem?_append_right (by omega)]; simp
  unfold top
  simp only [h]
theorem W2_set : (W2 S0 o xs).set S0.length (.ins 1 o') = W2 S0 o' xs := by unfold W2; rw [List.set_append_right _ _ (Nat.le_refl _)]; simp
theorem W2_setL : (W2 S0 o xs).set (S0.length + 1) (.lst ys) = W2 S0 o ys := by unfold W2; rw [List.set_append_right _ _ (by omega)]; simp
theorem LdAt.lt (h : LdAt S0 i L) : i < S0.length := by
  unfold LdAt at h
  obtain ⟨h1, _⟩ := List.getElem?_eq_some_iff.mp h
  exact h1
theorem LdAt.app (h : LdAt S0 i L) {X : Sto} : LdAt (S0 ++ X) i L := by
  have := h.lt
  unfold LdAt at *
  rw [List.getElem?_append_left this]
  exact h
theorem lw1 : (wkFs i F s t b j wd).lookup ("land_below" : Str) = some (.ref i) := rfl
theorem lw2 : (wkFs i F s t b j wd).lookup ("flight_gone" : Str) = some F.t := rfl
theorem lw3 : (wkFs i F s t b j wd).lookup ("begun_at" : Str) = some (.int s) := rfl
theorem lw4 : (wkFs i F s t b j wd).lookup ("turned_at" : Str) = some (turnT t) := rfl
theorem lw5 : (wkFs i F s t b j wd).lookup ("beat_now" : Str) = some (.int b) := rfl
theorem lw6 : (wkFs i F s t b j wd).lookup ("states_so_far" : Str) = some (.ref j) := rfl
theorem lw7 : (wkFs i F s t b j wd).lookup ("word_now" : Str) = some (wordT wd) := rfl
theorem lm1 : (wkFs i F s t b j wd).lookup ("last_state" : Str) = none := rfl
theorem lm2 : (wkFs i F s t b j wd).lookup ("is_ended" : Str) = none := rfl
theorem lm3 : (wkFs i F s t b j wd).lookup ("go_on" : Str) = none := rfl
theorem lm4 : (wkFs i F s t b j wd).lookup ("told_so_far" : Str) = none := rfl
theorem pw5 {z : Int} : putD "beat_now" (.int z) (wkFs i F s t b j wd) = wkFs i F s t z j wd := rfl
theorem pw7 {v : Option Str} : putD "word_now" (wordT v) (wkFs i F s t b j wd) = wkFs i F s t b j v := rfl
theorem wlen : (wkFs i F s t b j wd).length = 7 := rfl
theorem non_word {o : Option Str} : isNon (wordT o) = o.isNone := by cases o <;> rfl
theorem tp_word' {S : Sto} {o : Option Str} : top S (wordT o) = wordT o := by cases o <;> rfl
theorem ixLast {pre : List St} {q : St} : semIx (.lst ((pre ++ [q]).map St.t)) (.int (-1)) = some q.t := by
  show atI _ _ = _
  have := at_neg (l := (pre ++ [q]).map St.t) (n := 0) (by simp)
  have e : (-((0 : Nat) + 1 : Int)) = -1 := rfl
  rw [← e, this]
  simp
end
section
variable {P : Prg} [HasF P Gk37] [HasF P Gk07] [HasF P Gk08] [HasF P Gk09] {n i j : Nat} {R S S0 : Sto} {x y c : Int} {L : Land} {F : Flt} {s b a : Int} {Q : D × Sto → Prop} {W : List WR} {t : Option Int} {wd : Option Str} {pre : List St} {q : St}
theorem whole_any {d : D} (h : plD d = true) : callN P (n + 1) 0 [d] S = some (.bl (whD d), S) := by
  refine eq_of_Ok (Ok_call (f := ⟨1, 1, b0⟩) hf0 rfl ?_)
  unfold b0
  cases d <;> first | (cases h; done) | (simp_arith [whD, semIsi]; done)
theorem tp_pl {d : D} (h : plD d = true) : top S d = d := by cases d <;> first | rfl | (cases h; done)
theorem wholes_odd {d : D} (h : Odd d) : callN P (n + 2) 2 [d, .int 2] S = some (.bl false, S) := by
  refine eq_of_Ok (Ok_call (f := ⟨2, 3, b2⟩) hf2 rfl ?_)
  unfold b2
  cases h with
  | nt h1 h2 => cases d <;> first | (cases h1; done) | (exact absurd rfl (h2 _)) | (simp_arith [semIsi]; done)
  | @ln xs h1 =>
    have h2 : ¬ ((xs.length : Int) = 2) := by omega
    simp_arith [h2]
  | @el x y h1 h2 h3 h4 h5 =>
    simp_arith [lcGo_cons, lcGo_nil, whole_any h1, whole_any h2]
    have e := f_allB (bs := [whD x, whD y])
    simp only [List.map_cons, List.map_nil] at e
    simp_arith [e]
    simpa using h5
theorem wholes_pr {p : Int × Int} : callN P (n + 2) 2 [pr p, .int 2] S = some (.bl true, S) := are_wholes_eq (xs := [p.1, p.2]) (by simp)
theorem is_wind_w {p : Int × Int} (hW : ∀ w ∈ W, WROk L w) : callN P (n + 4) 78 [wnT W, q.t, .int b, pr p] S = some (.bl (decide (p ∈ windsF W q.x q.y b)), S) := by
  refine eq_of_Ok (Ok_call (f := ⟨4, 4, b78⟩) hf78 rfl ?_)
  unfold b78
  have e : ∀ S, top S (pr p) = pr p := fun _ => rfl
  have e2 := in_t (a := p.1) (b := p.2) (l := windsF W q.x q.y b)
  have e3 : (D.tup [.int p.1, .int p.2]) = pr p := rfl
  rw [e3] at e2
  simp_arith [wholes_pr, winds_at_eq hW, e, e2]
theorem is_wind_o {d : D} (h : Odd d) : callN P (n + 4) 78 [wnT W, q.t, .int b, d] S = some (.bl false, S) := by
  refine eq_of_Ok (Ok_call (f := ⟨4, 4, b78⟩) hf78 rfl ?_)
  unfold b78
  simp_arith [wholes_odd h]
theorem last_state_eq : callN P (n + 1) 80 [.ref S0.length] (W2 S0 (wkFs i F s t b (S0.length + 1) wd) ((pre ++ [q]).map St.t)) = some (q.t, W2 S0 (wkFs i F s t b (S0.length + 1) wd) ((pre ++ [q]).map St.t)) := by
  refine eq_of_Ok (Ok_call (f := ⟨1, 1, b80⟩) hf80 rfl ?_)
  unfold b80
  have e := ixLast (pre := pre) (q := q)
  simp_arith only [W2_refI, lw6, W2_top, e]
theorem is_ended_eq {xs : List D} (hL : LdAt S0 i L) : callN P (n + 1) 81 [.ref S0.length] (W2 S0 (wkFs i F s t b j wd) xs) = some (.bl (wd.isSome || decide (b = L.day)), W2 S0 (wkFs i F s t b j wd) xs) := by
  refine eq_of_Ok (Ok_call (f := ⟨1, 1, b81⟩) hf81 rfl ?_)
  unfold b81
  have h : refI 0 (.ref i) (W2 S0 (wkFs i F s t b j wd) xs) = some (i, L.fs) := refI_is hL.app
  cases wd with
  | none =>
    have e : wordT none = .non := rfl
    simp_arith [W2_refI, lw7, lw5, lw1, e, h, lk_d]
    rfl
  | some v =>
    have e : wordT (some v) = .str v := rfl
    have e2 : isNon (.str v) = false := rfl
    simp_arith [W2_refI, lw7, lw5, lw1, e, e2]
    rfl
theorem go_on_eq {p : Int × Int} (hL : LdAt S0 i L) (ok : L.Ok) (hF : FltOk L F) (hp : PrOk p) (hs : s ≤ b) (hl : pre.length ≤ 100) : callN P (n + 7) 82 [.ref S0.length, pr p] (W2 S0 (wkFs i F s t b (S0.length + 1) wd) ((pre ++ [q]).map St.t)) =
    some (.non, match beatF L F (rowAt F s b t) b q p.1 p.2 with
      | .st q' => W2 S0 (wkFs i F s t (b + 1) (S0.length + 1) none) ((pre ++ [q] ++ [q']).map St.t)
      | .br v => W2 S0 (wkFs i F s t (b + 1) (S0.length + 1) (some v)) ((pre ++ [q]).map St.t)) := by
  refine eq_of_Ok (Ok_call (f := ⟨2, 4, b82⟩) hf82 rfl ?_)
  unfold b82
  obtain ⟨⟨p1, p2⟩, p3, p4⟩ := hp
  have h : LdAt (W2 S0 (wkFs i F s t b (S0.length + 1) wd) ((pre ++ [q]).map St.t)) i L := hL.app
  have eb := beat_done_eq (P := P) (n := n) (r := rowAt F s b t) (b := b) (q := q) (wx := p.1) (wy := p.2) h ok hF ⟨by omega, by omega⟩ ⟨by omega, by omega⟩
  have e3 : (D.tup [.int p.1, .int p.2]) = pr p := rfl
  rw [e3] at eb
  have z : ((pre ++ [q]).map St.t).length < sizeLine := by simp [sizeLine]; omega
  cases ho : beatF L F (rowAt F s b t) b q p.1 p.2 with
  | st q' =>
    rw [ho] at eb
    have e4 : (Out.st q').t = .tup [q'.t, wordT none] := rfl
    rw [e4] at eb
    have e5 : ((pre ++ [q]).map St.t) ++ [q'.t] = (pre ++ [q] ++ [q']).map St.t := by simp
    simp_arith [W2_refI, lw1, lw2, lw3, lw4, lw5, lw6, row_at_eq hs, lm1, last_state_eq, eb, pairD, wlen, pw7, W2_set, W2_refL, z, W2_setL, e5, addI, pw5]
  | br v =>
    rw [ho] at eb
    have e4 : (Out.br v).t = .tup [.non, wordT (some v)] := rfl
    rw [e4] at eb
    simp_arith [W2_refI, lw1, lw2, lw3, lw4, lw5, lw6, row_at_eq hs, lm1, last_state_eq, eb, pairD, wlen, pw7, W2_set, W2_refL, z, W2_setL, addI, pw5]
theorem told_eq (hL : LdAt S0 i L) (ok : L.Ok) : callN P (n + 4) 83 [.ref S0.length] (W2 S0 (wkFs i F s t b (S0.length + 1) wd) ((pre ++ [q]).map St.t)) =
    some (resT (some (pre ++ [q], if (wd.isNone && (decide (b = L.day) && !homeF L F q.x q.y)) = true then some "late" else wd)), W2 S0 (wkFs i F s t b (S0.length + 1) wd) ((pre ++ [q]).map St.t)) := by
  refine eq_of_Ok (Ok_call (f := ⟨1, 2, b83⟩) hf83 rfl ?_)
  unfold b83
  have h : LdAt (W2 S0 (wkFs i F s t b (S0.length + 1) wd) ((pre ++ [q]).map St.t)) i L := hL.app
  cases wd with
  | some v =>
    have e : wordT (some v) = .str v := rfl
    have e2 : isNon (.str v) = false := rfl
    simp_arith [W2_refI, lw7, lw6, W2_top, e, e2]
    rfl
  | none =>
    have e : wordT none = .non := rfl
    cases c : (decide (b = L.day) && !homeF L F q.x q.y) with
    | true =>
      have c1 := c
      rw [Bool.and_eq_true] at c1
      have c2 : homeF L F q.x q.y = false := by simpa using c1.2
      simp_arith [W2_refI, lw7, lw6, lw1, lw2, lm1, lm2, W2_top, is_ended_eq hL, last_state_eq, is_home_eq h ok, e, c1.1, c2]
      rfl
    | false =>
      by_cases c1 : b = L.day
      · have c2 : homeF L F q.x q.y = true := by simpa [c1] using c
        have c3 : decide (b = L.day) = true := by simp [c1]
        simp_arith [W2_refI, lw7, lw6, lw1, lw2, lm1, lm2, W2_top, is_ended_eq hL, last_state_eq, is_home_eq h ok, e, c3, c2, Option.isSome_none, Option.isNone_none]
        rfl
      · have c3 : decide (b = L.day) = false := by simp [c1]
        simp_arith [W2_refI, lw7, lw6, lw1, lw2, lm1, lm2, W2_top, is_ended_eq hL, last_state_eq, is_home_eq h ok, e, c3, Option.isSome_none, Option.isNone_none]
        rfl
theorem init_eq (hL : LdAt S0 i L) (ok : L.Ok) : callN P (n + 5) 79 [.ref S0.length, .ref i, F.t, .int s, turnT t] (S0 ++ [.ins 1 []]) = some (.non, W2 S0 (wkFs i F s t s (S0.length + 1) (L.hurts F.st.x F.st.y s F.fy.c)) [F.st.t]) := by
  refine eq_of_Ok (Ok_call (f := ⟨5, 5, b79⟩) hf79 rfl ?_)
  unfold b79
  have e0 : S0 ++ [.ins 1 []] = W1 S0 [] := rfl
  rw [e0]
  have h : ∀ o xs, LdAt (W2 S0 o xs) i L := fun _ _ => hL.app
  have hi : ∀ o xs, refI 0 (.ref i) (W2 S0 o xs) = some (i, L.fs) := fun _ _ => refI_is (h _ _)
  have f1 : L.fs.lookup ("hurts" : Str) = none := rfl
  have hh : ∀ o xs x y b c, callN P (n + 4) 55 [.ref i, .int x, .int y, .int b, .int c] (W2 S0 o xs) = some (wordT (L.hurts x y b c), W2 S0 o xs) := fun o xs x y b c => hurts_eq (h o xs) ok
  have p1 : ∀ v : D, putD "land_below" v ([] : List (Str × D)) = ([("land_below", v)] : List (Str × D)) := fun _ => rfl
  have p2 : ∀ a v : D, putD "flight_gone" v ([("land_below", a)] : List (Str × D)) = ([("land_below", a), ("flight_gone", v)] : List (Str × D)) := fun _ _ => rfl
  have p3 : ∀ a b v : D, putD "begun_at" v ([("land_below", a), ("flight_gone", b)] : List (Str × D)) = ([("land_below", a), ("flight_gone", b), ("begun_at", v)] : List (Str × D)) := fun _ _ _ => rfl
  have p4 : ∀ a b c v : D, putD "turned_at" v ([("land_below", a), ("flight_gone", b), ("begun_at", c)] : List (Str × D)) = ([("land_below", a), ("flight_gone", b), ("begun_at", c), ("turned_at", v)] : List (Str × D)) := fun _ _ _ _ => rfl
  have p5 : ∀ a b c d v : D, putD "beat_now" v ([("land_below", a), ("flight_gone", b), ("begun_at", c), ("turned_at", d)] : List (Str × D)) = ([("land_below", a), ("flight_gone", b), ("begun_at", c), ("turned_at", d), ("beat_now", v)] : List (Str × D)) := fun _ _ _ _ _ => rfl
  have p6 : ∀ a b c d e v : D, putD "states_so_far" v ([("land_below", a), ("flight_gone", b), ("begun_at", c), ("turned_at", d), ("beat_now", e)] : List (Str × D)) = ([("land_below", a), ("flight_gone", b), ("begun_at", c), ("turned_at", d), ("beat_now", e), ("states_so_far", v)] : List (Str × D)) := fun _ _ _ _ _ _ => rfl
  have p7 : ∀ a b c d e f v : D, putD "word_now" v ([("land_below", a), ("flight_gone", b), ("begun_at", c), ("turned_at", d), ("beat_now", e), ("states_so_far", f)] : List (Str × D)) = ([("land_below", a), ("flight_gone", b), ("begun_at", c), ("turned_at", d), ("beat_now", e), ("states_so_far", f), ("word_now", v)] : List (Str × D)) := fun _ _ _ _ _ _ _ => rfl
  simp_arith [W1_refI, W1_set, p1, p2, p3, p4, p5, p6, p7, W1_push, W1_len, W2_refI, W2_set, hi, f1, hh]
  rfl
theorem walked_ok {its : List Wi} (hL : LdAt S0 i L) (ok : L.Ok) (hF : FltOk L F) (hW : ∀ w ∈ W, WROk L w) (hI : ∀ w ∈ its, WiOk w) (s0 : 0 ≤ s) (s1 : s ≤ L.day) (qq : ∀ X : Sto, Q (resT (walkGo L F W s t its s [] F.st (L.hurts F.st.x F.st.y s F.fy.c)), S0 ++ X)) :
    Ok (callN P (n + 8) 84 [.ref i, wnT W, F.t, .int s, .tup (its.map Wi.t), turnT t] S0) Q := by
  refine Ok_call (f := ⟨6, 8, b84⟩) hf84 rfl ?_
  unfold b84
  have d1 := ok.d1
  simp_arith [init_eq hL ok]
  generalize hG : walkGo L F W s t its s [] F.st (L.hurts F.st.x F.st.y s F.fy.c) = G at qq
  refine Ok_frT (enc := Wi.t) (fun r env S' => ∃ a7 b pre q wd, (∀ w ∈ r, WiOk w) ∧ s ≤ b ∧ b ≤ L.day ∧ (pre.length : Int) ≤ b - s ∧ G = walkGo L F W s t r b pre q wd ∧ S' = W2 S0 (wkFs i F s t b (S0.length + 1) wd) ((pre ++ [q]).map St.t) ∧
      env = [.fz (.ref i), .fz (wnT W), .fz F.t, .fz (.int s), .fz (.tup (its.map Wi.t)), .fz (turnT t), .fz (.ref S0.length), a7]) ⟨_, s, [], F.st, _, hI, Int.le_refl _, s1, by simp, hG.symm, rfl, rfl⟩ ?_ ?_
  · rintro it r env S' ⟨a7, b, pre, q, wd, hr, b0, b1, pl, e, rfl, rfl⟩
    have ho := hr it List.mem_cons_self
    rw [walk_cons] at e
    cases c : (wd.isSome || decide (b = L.day)) with
    | true =>
      rw [c, if_pos rfl] at e
      subst e
      simp_arith [W2_refI, lm1, lm2, lm3, is_ended_eq hL, c]
      exact qq _
    | false =>
      rw [c, if_neg (by decide)] at e
      have c2 : b ≠ L.day := by
        intro z
        rw [z] at c
        simp at c
      cases it with
      | o d =>
        simp only at e
        subst e
        have ho' : Odd d := ho
        unfold Wi.t
        simp_arith [W2_refI, lm1, lm2, lm3, lw5, is_ended_eq hL, last_state_eq, c, is_wind_o ho']
        exact qq _
      | w p =>
        have ho' : PrOk p := ho
        simp only at e
        unfold Wi.t
        by_cases c3 : p ∈ windsF W q.x q.y b
        · rw [if_pos c3] at e
          have eg := go_on_eq (P := P) (n := n) (s := s) (t := t) (wd := wd) (q := q) (p := p) hL ok hF ho' b0 (pre := pre) (by omega)
          cases hb : beatF L F (rowAt F s b t) b q p.1 p.2 with
          | st q' =>
            rw [hb] at e eg
            simp only at e eg
            simp_arith [W2_refI, lm1, lm2, lm3, lw5, is_ended_eq hL, last_state_eq, c, is_wind_w hW, c3, eg]
            exact ⟨_, b + 1, pre ++ [q], q', none, fun w hw => hr w (List.mem_cons_of_mem _ hw), by omega, by omega, by simp; omega, e, rfl, rfl⟩
          | br v =>
            rw [hb] at e eg
            simp only at e eg
            simp_arith [W2_refI, lm1, lm2, lm3, lw5, is_ended_eq hL, last_state_eq, c, is_wind_w hW, c3, eg]
            exact ⟨_, b + 1, pre, q, some v, fun w hw => hr w (List.mem_cons_of_mem _ hw), by omega, by omega, by omega, e, rfl, rfl⟩
        · rw [if_neg c3] at e
          subst e
          simp_arith [W2_refI, lm1, lm2, lm3, lw5, is_ended_eq hL, last_state_eq, c, is_wind_w hW, c3]
          exact qq _
  · rintro env S' ⟨a7, b, pre, q, wd, hr, b0, b1, pl, e, rfl, rfl⟩
    rw [walk_nil] at e
    subst e
    simp_arith [W2_refI, lm4, told_eq hL ok]
    exact qq _
theorem walked_not {d : D} (hd : plD d = true) (hn : ∀ xs, d ≠ .tup xs) : callN P (n + 1) 84 [.ref i, wnT W, F.t, .int s, d, turnT t] S = some (.non, S) := by
  refine eq_of_Ok (Ok_call (f := ⟨6, 8, b84⟩) hf84 rfl ?_)
  unfold b84
  cases d <;> first | (cases hd; done) | (exact absurd rfl (hn _)) | (simp_arith [semIsi]; done)
end
end Wf
-- ENC2
set_option Elab.async false
set_option linter.all false
set_option maxRecDepth 100000
namespace Wf
open PySem L2
local macro_rules | `(tactic| simp_arith only [$xs,*]) => `(tactic| simp +decide only [Ok_cons, Ok_nil, SK_nx, SK_rt, FK_rt, FK_nx, evS, evE, evP, evEs, evQs, evPs, evO, evC, evI, evMs, setAll, ownS, Ok_bind, Ok_map, Ok_some, Ok_none, Ok_ite, getS, peekS, setS, wipeS, orc, permA, keyOf, List.map_cons, List.map_nil, List.cons_append, List.nil_append, List.append_nil, List.replicate, List.length_cons, List.length_nil, List.getElem?_cons_zero, List.getElem?_cons_succ, List.set_cons_zero, List.set_cons_succ, Option.map_some, Option.bind_some, Option.map_none, Option.bind_none, asgT, asgTs, sq_t, sq_l, Ts.len, starD, List.take_succ_cons, List.take_zero, List.drop_succ_cons, List.drop_zero, List.take_nil, List.drop_nil, List.flatten_cons, List.flatten_nil, List.foldl_cons, List.foldl_nil, tp_n, tp_b, tp_i, tp_s, tp_t, tp_l, tp_d, tp_k, tp_c, tp_r0, tp_r1, ix_l, ix_t, ix_k, ix_d, ix_di, at0, at1, at2, at3, at4, at5, at6, at7, atm1, atm2, atm3, b_add, b_sub, b_mul, b_div, b_mod, b_pow, b_addT, b_addL, b_mulL, c_lt, c_le, c_gt, c_ge, c_eq, c_ne, c_eqs, c_nes, c_is, c_isnt, n_n, n_t, n_i, n_l, bl_b, int_i, f_len, f_lenT, f_min, f_max, f_min3, f_max3, f_abs, f_intB, f_int, f_tup, f_tupT, f_lst, f_lstT, f_sum, r_l0, r_l1, ints_map, c_neNil, c_eqNil, c_ne00, sz0, pt0, pt1, pt2, isi_i, isi_t, isi_n, isi_b, isi_l, isi_s, cutT, cutL, cut_to, cut_from, fold_and, fold_or, fold_ite, fold_iteI, fold_iteB, fold_flt, ite_bF, ite_bT, szle, szlt, sm62_i, tp_Bx, sq_Bx, ix_Bx_0, ix_Bx_1, ix_Bx_2, ix_Bx_3, ix_Bx_m1, ix_Bx_m2, ix_Bx_m3, len_Bx, non_Bx, tp_Rm, sq_Rm, ix_Rm_0, ix_Rm_1, ix_Rm_2, ix_Rm_3, ix_Rm_4, ix_Rm_5, ix_Rm_m1, ix_Rm_m2, ix_Rm_m3, len_Rm, non_Rm, tp_Pd, sq_Pd, ix_Pd_0, ix_Pd_1, ix_Pd_2, ix_Pd_3, ix_Pd_4, ix_Pd_m1, ix_Pd_m2, ix_Pd_m3, len_Pd, non_Pd, tp_Fy, sq_Fy, ix_Fy_0, ix_Fy_1, ix_Fy_2, ix_Fy_3, ix_Fy_m1, ix_Fy_m2, ix_Fy_m3, len_Fy, non_Fy, tp_St, sq_St, ix_St_0, ix_St_1, ix_St_2, ix_St_3, ix_St_m1, ix_St_m2, ix_St_m3, len_St, non_St, tp_Flt, sq_Flt, ix_Flt_0, ix_Flt_1, ix_Flt_2, ix_Flt_3, ix_Flt_4, ix_Flt_m1, ix_Flt_m2, ix_Flt_m3, len_Flt, non_Flt, tp_Ld, ix_Ld_w, ix_Ld_h, ix_Ld_d, ix_Ld_hs, ix_Ld_bar, ix_Ld_peo, ix_Ld_pads, tp_hs, tp_Tk, tp_Row, tp_way, sq_way, len_way, non_Row, reduceIte, if_true, if_false, ite_true, ite_false, if_false_right, if_false_left, decide_eq_true_eq, Bool.not_eq_true', Bool.not_true, Bool.not_false, decide_eq_false_iff_not, Bool.false_eq_true, Bool.true_and, Bool.and_true, Bool.false_and, Bool.and_false, Bool.or_true, Bool.or_false, Bool.false_or, Bool.true_or, reduceCtorEq, true_and, and_true, Int.reduceLT, Int.reduceLE, Int.reducePow, Int.reduceNeg, Int.reduceMul, Int.reduceAdd, Int.reduceSub, Int.reduceToNat, Int.reduceEq, na10, Nat.reducePow, Nat.reduceLT, Nat.reduceLeDiff, Nat.reduceAdd, Nat.reduceSub, true_or, or_true, and_self, decide_true, decide_false, Bool.decide_eq_true, Bool.and_self, Bool.not_not, eq_self, not_true_eq_false, not_false_eq_true, $xs,*])
local macro_rules | `(tactic| simp_arith only [$xs,*] at $h:ident) => `(tactic| simp +decide only [Ok_cons, Ok_nil, SK_nx, SK_rt, FK_rt, FK_nx, evS, evE, evP, evEs, evQs, evPs, evO, evC, evI, evMs, setAll, ownS, Ok_bind, Ok_map, Ok_some, Ok_none, Ok_ite, getS, peekS, setS, wipeS, orc, permA, keyOf, List.map_cons, List.map_nil, List.cons_append, List.nil_append, List.append_nil, List.replicate, List.length_cons, List.length_nil, List.getElem?_cons_zero, List.getElem?_cons_succ, List.set_cons_zero, List.set_cons_succ, Option.map_some, Option.bind_some, Option.map_none, Option.bind_none, asgT, asgTs, sq_t, sq_l, Ts.len, starD, List.take_succ_cons, List.take_zero, List.drop_succ_cons, List.drop_zero, List.take_nil, List.drop_nil, List.flatten_cons, List.flatten_nil, List.foldl_cons, List.foldl_nil, tp_n, tp_b, tp_i, tp_s, tp_t, tp_l, tp_d, tp_k, tp_c, tp_r0, tp_r1, ix_l, ix_t, ix_k, ix_d, ix_di, at0, at1, at2, at3, at4, at5, at6, at7, atm1, atm2, atm3, b_add, b_sub, b_mul, b_div, b_mod, b_pow, b_addT, b_addL, b_mulL, c_lt, c_le, c_gt, c_ge, c_eq, c_ne, c_eqs, c_nes, c_is, c_isnt, n_n, n_t, n_i, n_l, bl_b, int_i, f_len, f_lenT, f_min, f_max, f_min3, f_max3, f_abs, f_intB, f_int, f_tup, f_tupT, f_lst, f_lstT, f_sum, r_l0, r_l1, ints_map, c_neNil, c_eqNil, c_ne00, sz0, pt0, pt1, pt2, isi_i, isi_t, isi_n, isi_b, isi_l, isi_s, cutT, cutL, cut_to, cut_from, fold_and, fold_or, fold_ite, fold_iteI, fold_iteB, fold_flt, ite_bF, ite_bT, szle, szlt, sm62_i, tp_Bx, sq_Bx, ix_Bx_0, ix_Bx_1, ix_Bx_2, ix_Bx_3, ix_Bx_m1, ix_Bx_m2, ix_Bx_m3, len_Bx, non_Bx, tp_Rm, sq_Rm, ix_Rm_0, ix_Rm_1, ix_Rm_2, ix_Rm_3, ix_Rm_4, ix_Rm_5, ix_Rm_m1, ix_Rm_m2, ix_Rm_m3, len_Rm, non_Rm, tp_Pd, sq_Pd, ix_Pd_0, ix_Pd_1, ix_Pd_2, ix_Pd_3, ix_Pd_4, ix_Pd_m1, ix_Pd_m2, ix_Pd_m3, len_Pd, non_Pd, tp_Fy, sq_Fy, ix_Fy_0, ix_Fy_1, ix_Fy_2, ix_Fy_3, ix_Fy_m1, ix_Fy_m2, ix_Fy_m3, len_Fy, non_Fy, tp_St, sq_St, ix_St_0, ix_St_1, ix_St_2, ix_St_3, ix_St_m1, ix_St_m2, ix_St_m3, len_St, non_St, tp_Flt, sq_Flt, ix_Flt_0, ix_Flt_1, ix_Flt_2, ix_Flt_3, ix_Flt_4, ix_Flt_m1, ix_Flt_m2, ix_Flt_m3, len_Flt, non_Flt, tp_Ld, ix_Ld_w, ix_Ld_h, ix_Ld_d, ix_Ld_hs, ix_Ld_bar, ix_Ld_peo, ix_Ld_pads, tp_hs, tp_Tk, tp_Row, tp_way, sq_way, len_way, non_Row, reduceIte, if_true, if_false, ite_true, ite_false, if_false_right, if_false_left, decide_eq_true_eq, Bool.not_eq_true', Bool.not_true, Bool.not_false, decide_eq_false_iff_not, Bool.false_eq_true, Bool.true_and, Bool.and_true, Bool.false_and, Bool.and_false, Bool.or_true, Bool.or_false, Bool.false_or, Bool.true_or, reduceCtorEq, true_and, and_true, Int.reduceLT, Int.reduceLE, Int.reducePow, Int.reduceNeg, Int.reduceMul, Int.reduceAdd, Int.reduceSub, Int.reduceToNat, Int.reduceEq, na10, Nat.reducePow, Nat.reduceLT, Nat.reduceLeDiff, Nat.reduceAdd, Nat.reduceSub, true_or, or_true, and_self, decide_true, decide_false, Bool.decide_eq_true, Bool.and_self, Bool.not_not, eq_self, not_true_eq_false, not_false_eq_true, $xs,*] at $h:ident)
local macro_rules | `(tactic| simp_arith [$xs,*]) => `(tactic| repeat (first | with_reducible (refine SKn ?_) | with_reducible (refine SKr ?_) | with_reducible (refine Okc ?_) | with_reducible (refine Okn ?_) | with_reducible (refine FRn ?_) | with_reducible (refine FRr ?_) | with_reducible (refine fr_cons ?_) | with_reducible (refine fr_nil ?_) | simp +decide only [FK_rt, FK_nx, evS, evE, evP, evEs, evQs, evPs, evO, evC, evI, evMs, setAll, ownS, Ok_bind, Ok_map, Ok_some, Ok_none, Ok_ite, getS, peekS, setS, wipeS, orc, permA, keyOf, List.map_cons, List.map_nil, List.cons_append, List.nil_append, List.append_nil, List.replicate, List.length_cons, List.length_nil, List.getElem?_cons_zero, List.getElem?_cons_succ, List.set_cons_zero, List.set_cons_succ, Option.map_some, Option.bind_some, Option.map_none, Option.bind_none, asgT, asgTs, sq_t, sq_l, Ts.len, starD, List.take_succ_cons, List.take_zero, List.drop_succ_cons, List.drop_zero, List.take_nil, List.drop_nil, List.flatten_cons, List.flatten_nil, List.foldl_cons, List.foldl_nil, tp_n, tp_b, tp_i, tp_s, tp_t, tp_l, tp_d, tp_k, tp_c, tp_r0, tp_r1, ix_l, ix_t, ix_k, ix_d, ix_di, at0, at1, at2, at3, at4, at5, at6, at7, atm1, atm2, atm3, b_add, b_sub, b_mul, b_div, b_mod, b_pow, b_addT, b_addL, b_mulL, c_lt, c_le, c_gt, c_ge, c_eq, c_ne, c_eqs, c_nes, c_is, c_isnt, n_n, n_t, n_i, n_l, bl_b, int_i, f_len, f_lenT, f_min, f_max, f_min3, f_max3, f_abs, f_intB, f_int, f_tup, f_tupT, f_lst, f_lstT, f_sum, r_l0, r_l1, ints_map, c_neNil, c_eqNil, c_ne00, sz0, pt0, pt1, pt2, isi_i, isi_t, isi_n, isi_b, isi_l, isi_s, cutT, cutL, cut_to, cut_from, fold_and, fold_or, fold_ite, fold_iteI, fold_iteB, fold_flt, ite_bF, ite_bT, szle, szlt, sm62_i, tp_Bx, sq_Bx, ix_Bx_0, ix_Bx_1, ix_Bx_2, ix_Bx_3, ix_Bx_m1, ix_Bx_m2, ix_Bx_m3, len_Bx, non_Bx, tp_Rm, sq_Rm, ix_Rm_0, ix_Rm_1, ix_Rm_2, ix_Rm_3, ix_Rm_4, ix_Rm_5, ix_Rm_m1, ix_Rm_m2, ix_Rm_m3, len_Rm, non_Rm, tp_Pd, sq_Pd, ix_Pd_0, ix_Pd_1, ix_Pd_2, ix_Pd_3, ix_Pd_4, ix_Pd_m1, ix_Pd_m2, ix_Pd_m3, len_Pd, non_Pd, tp_Fy, sq_Fy, ix_Fy_0, ix_Fy_1, ix_Fy_2, ix_Fy_3, ix_Fy_m1, ix_Fy_m2, ix_Fy_m3, len_Fy, non_Fy, tp_St, sq_St, ix_St_0, ix_St_1, ix_St_2, ix_St_3, ix_St_m1, ix_St_m2, ix_St_m3, len_St, non_St, tp_Flt, sq_Flt, ix_Flt_0, ix_Flt_1, ix_Flt_2, ix_Flt_3, ix_Flt_4, ix_Flt_m1, ix_Flt_m2, ix_Flt_m3, len_Flt, non_Flt, tp_Ld, ix_Ld_w, ix_Ld_h, ix_Ld_d, ix_Ld_hs, ix_Ld_bar, ix_Ld_peo, ix_Ld_pads, tp_hs, tp_Tk, tp_Row, tp_way, sq_way, len_way, non_Row, reduceIte, if_true, if_false, ite_true, ite_false, if_false_right, if_false_left, decide_eq_true_eq, Bool.not_eq_true', Bool.not_true, Bool.not_false, decide_eq_false_iff_not, Bool.false_eq_true, Bool.true_and, Bool.and_true, Bool.false_and, Bool.and_false, Bool.or_true, Bool.or_false, Bool.false_or, Bool.true_or, reduceCtorEq, true_and, and_true, Int.reduceLT, Int.reduceLE, Int.reducePow, Int.reduceNeg, Int.reduceMul, Int.reduceAdd, Int.reduceSub, Int.reduceToNat, Int.reduceEq, na10, Nat.reducePow, Nat.reduceLT, Nat.reduceLeDiff, Nat.reduceAdd, Nat.reduceSub, true_or, or_true, and_self, decide_true, decide_false, Bool.decide_eq_true, Bool.and_self, Bool.not_not, eq_self, not_true_eq_false, not_false_eq_true, $xs,*]))
theorem odd_lc {S : Sto} {x y : D} {f : D → Sto → Option (Option D × Sto)} (hf : ∀ z, plD z = true → f z S = some (if (!whD z) = true then some z else none, S)) (h1 : plD x = true) (h2 : plD y = true) : lcGo f [x, y] [] S = some ([x, y].filter fun z => !whD z, S) := by
  have e : [x, y] = [x, y].map fun z => z := by simp
  have := lc_flt (enc := fun z : D => z) (g := fun z : D => z) (p := fun z => !whD z) (S := S) (f := f) (xs := [x, y]) (acc := []) (by simp [sizeLine]) fun z hz => by
    simp only [List.mem_cons, List.not_mem_nil, or_false] at hz
    rcases hz with rfl | rfl
    · exact hf _ h1
    · exact hf _ h2
  simpa using this
theorem neNilC {l : List D} (h : Cms l 5) : semCmp .NotEq (.lst l) (.lst []) = some (!l.isEmpty) := by
  show (semEq _ _).map (!·) = _
  rw [semEq_is (Cm.lst h) (Cm.lst (Cms.nil (k := 0))) (by decide) (by decide)]
  cases l with
  | nil => rfl
  | cons z r => rfl
theorem Cms.flt {p : D → Bool} {k : Nat} : ∀ {l : List D}, Cms l k → Cms (l.filter p) k
  | [], _ => Cms.nil
  | x :: r, h => by
    obtain ⟨ps, e1, e2, e3⟩ := h
    rw [pdAll] at e1
    split at e1
    · rename_i q qs f1 f2
      cases e1
      rw [PyData.canLayAll0, Bool.and_eq_true] at e2
      rw [PyData.depthAll] at e3
      have hr : Cms (r.filter p) k := Cms.flt ⟨qs, f2, e2.2, by omega⟩
      rw [List.filter_cons]
      split
      · exact Cms.cons ⟨q, f1, e2.1, by omega⟩ hr
      · exact hr
    · cases e1
section
variable {P : Prg} [HasF P Gk37] [HasF P Gk07] [HasF P Gk08] [HasF P Gk09] {n i j : Nat} {R S S0 : Sto} {x y c m : Int} {L : Land} {F : Flt} {s b a : Int} {Q : D × Sto → Prop} {W : List WR} {t : Option Int} {wd : Option Str} {pre : List St} {q : St}
theorem lwalked_eq {its : List Wi} (ok : L.Ok) (hF : FltOk L F) (hW : ∀ w ∈ W, WROk L w) (hI : ∀ w ∈ its, WiOk w) (s0 : 0 ≤ s) (s1 : s ≤ L.day) :
    callN P (n + 5) 90 [L.dct, wnT W, F.t, .int s, .tup (its.map Wi.t), turnT t] S = some (resT (walkGo L F W s t its s [] F.st (L.hurts F.st.x F.st.y s F.fy.c)), S) := by
  refine eq_of_Ok (Ok_call (f := ⟨6, 18, b90⟩) hf90 rfl ?_)
  unfold b90
  have d1 := ok.d1
  by_cases c0 : L.day - s < (its.length : Int)
  · rw [walk_long s1 c0]
    simp_arith [List.length_map, c0]
    rfl
  generalize hG : walkGo L F W s t its s [] F.st (L.hurts F.st.x F.st.y s F.fy.c) = G
  simp_arith [List.length_map, c0, lhurts_eq ok hF.fy.c0, enum_map]
  refine Ok_frT (enc := fun p : Wi × Nat => D.tup [.int (p.2 : Nat), p.1.t]) (fun r env S' => S' = S ∧ ∃ (its' : List Wi) (k : Nat) (pre : List St) (q : St) (wd : Option Str) (a8 a9 a10 a11 a12 a13 a14 a15 a16 a17 : Sl), r = its'.zipIdx k ∧ (∀ w ∈ its', WiOk w) ∧ k + its'.length = its.length ∧ pre.length ≤ k ∧ G = walkGo L F W s t its' (s + (k : Int)) pre q wd ∧
      env = [.fz L.dct, .fz (wnT W), .fz F.t, .fz (.int s), .fz (.tup (its.map Wi.t)), .fz (turnT t), .fz (.lst ((pre ++ [q]).map St.t)), .fz (wordT wd), a8, a9, a10, a11, a12, a13, a14, a15, a16, a17])
    ⟨rfl, its, 0, [], F.st, _, _, _, _, _, _, _, _, _, _, _, rfl, hI, by simp, by simp, by rw [← hG]; simp, rfl⟩ ?_ ?_
  · rintro p r env S' ⟨rfl, its', k, pre, q, wd, a8, a9, a10, a11, a12, a13, a14, a15, a16, a17, hz, hr, hl, pl, e, rfl⟩
    cases its' with
    | nil => cases hz
    | cons it its'' =>
      rw [List.zipIdx_cons] at hz
      injection hz with hz1 hz2
      subst hz1 hz2
      have ho := hr it List.mem_cons_self
      rw [List.length_cons] at hl
      rw [walk_cons] at e
      have il := ixLast (pre := pre) (q := q)
      have sz : ((pre ++ [q]).map St.t).length + 1 ≤ sizeLine := by simp [sizeLine]; omega
      have sz0 : ((pre ++ [q]).map St.t).length + 0 ≤ sizeLine := by simp [sizeLine]; omega
      cases wd with
      | some v =>
        have e2 : wordT (some v) = .str v := rfl
        have e3 : isNon (.str v) = false := rfl
        simp only [Option.isSome_some, Bool.true_or, if_true] at e
        subst e
        simp_arith [e2, e3]
        rfl
      | none =>
        have e2 : wordT none = .non := rfl
        have c1 : ¬ (s + (k : Int) = L.day) := by omega
        simp only [Option.isSome_none, Bool.false_or, c1, decide_false, Bool.false_eq_true, if_false] at e
        cases it with
        | o d =>
          simp only at e
          subst e
          have ho' : Odd d := ho
          unfold Wi.t
          cases ho' with
          | nt h1 h2 => cases d <;> first | (cases h1; done) | (exact absurd rfl (h2 _)) | (simp_arith [e2, semIsi]; rfl)
          | @ln xs h1 =>
            have h2 : ¬ ((xs.length : Int) = 2) := by omega
            simp_arith [e2, h2]
            rfl
          | @el x y h1 h2 h3 h4 h5 =>
            simp_arith [e2, il]
            rw [odd_lc (fun z hz => by cases z <;> first | (cases hz; done) | (simp_arith only [semIsi, whD]; done)) h1 h2]
            have n1 : (List.filter (fun z => !whD z) [x, y]).isEmpty = false := by
              cases g1 : whD x <;> cases g2 : whD y <;> simp [g1, g2, List.filter_cons] at h5 ⊢
            simp_arith [neNilC (Cms.flt (p := fun z => !whD z) (Cms.cons h3 (Cms.cons h4 Cms.nil))), n1]
            rfl
        | w p =>
          have ho' : PrOk p := ho
          obtain ⟨⟨p1, p2⟩, p3, p4⟩ := ho'
          simp only at e
          unfold Wi.t
          have e5 : pr p = .tup [.int p.1, .int p.2] := rfl
          have e7 : s + (k : Int) + 1 = s + ((k + 1 : Nat) : Int) := by omega
          have e6 : ∀ q' : St, (pre ++ [q]).map St.t ++ [q'.t] = (pre ++ [q] ++ [q']).map St.t := fun q' => by simp
          have ni := nin_l (a := p.1) (b := p.2) (l := windsF W q.x q.y (s + (k : Int)))
          have eb := fun S => lbeat_eq (P := P) (n := n) (S := S) (r := rowAt F s (s + (k : Int)) t) (b := s + (k : Int)) (q := q) (wx := p.1) (wy := p.2) ok hF ⟨by omega, by omega⟩ ⟨by omega, by omega⟩
          by_cases c3 : p ∈ windsF W q.x q.y (s + (k : Int))
          · rw [if_pos c3] at e
            cases hb : beatF L F (rowAt F s (s + (k : Int)) t) (s + (k : Int)) q p.1 p.2 with
            | st q' =>
              rw [hb] at e
              simp only [hb] at e eb
              have e4 : (Out.st q').t = .tup [q'.t, wordT none] := rfl
              rw [e4] at eb
              simp_arith [e2, e5, il, lcGo_cons, lcGo_nil, lwinds_at_eq hW, ni, c3, lrow_eq (show s ≤ s + (k : Int) by omega), eb, sz, e6]
              exact ⟨its'', k + 1, pre ++ [q], q', none, _, _, _, _, _, _, _, _, _, _, rfl, fun w hw => hr w (List.mem_cons_of_mem _ hw), by omega, by simp; omega, by rw [e, e7], rfl⟩
            | br v =>
              rw [hb] at e
              simp only [hb] at e eb
              have e4 : (Out.br v).t = .tup [.non, wordT (some v)] := rfl
              rw [e4] at eb
              simp_arith [e2, e5, il, lcGo_cons, lcGo_nil, lwinds_at_eq hW, ni, c3, lrow_eq (show s ≤ s + (k : Int) by omega), eb, sz0]
              exact ⟨its'', k + 1, pre, q, some v, _, _, _, _, _, _, _, _, _, _, rfl, fun w hw => hr w (List.mem_cons_of_mem _ hw), by omega, by omega, by rw [e, e7], rfl⟩
          · rw [if_neg c3] at e
            subst e
            simp_arith [e2, e5, il, lcGo_cons, lcGo_nil, lwinds_at_eq hW, ni, c3]
            rfl
  · rintro env S' ⟨rfl, its', k, pre, q, wd, a8, a9, a10, a11, a12, a13, a14, a15, a16, a17, hz, hr, hl, pl, e, rfl⟩
    cases its' with
    | cons it r => rw [List.zipIdx_cons] at hz; cases hz
    | nil =>
      rw [walk_nil] at e
      rw [List.length_nil] at hl
      subst e
      have il := ixLast (pre := pre) (q := q)
      cases wd with
      | some v =>
        have e2 : wordT (some v) = .str v := rfl
        have e3 : isNon (.str v) = false := rfl
        simp_arith [e2, e3]
        rfl
      | none =>
        have e2 : wordT none = .non := rfl
        by_cases c1 : (its.length : Int) = L.day - s
        · have c2 : s + (k : Int) = L.day := by omega
          cases c3 : homeF L F q.x q.y with
          | true =>
            simp_arith [e2, List.length_map, c1, il, lhome_at_eq ok, c3, Option.isNone_none, c2]
            rfl
          | false =>
            simp_arith [e2, List.length_map, c1, il, lhome_at_eq ok, c3, Option.isNone_none, c2]
            rfl
        · have c2 : ¬ (s + (k : Int) = L.day) := by omega
          simp_arith [e2, List.length_map, c1, Option.isNone_none, c2]
          rfl
theorem lwalked_not {d : D} (hd : plD d = true) (hn : ∀ xs, d ≠ .tup xs) : callN P (n + 1) 90 [L.dct, wnT W, F.t, .int s, d, turnT t] S = some (.non, S) := by
  refine eq_of_Ok (Ok_call (f := ⟨6, 18, b90⟩) hf90 rfl ?_)
  unfold b90
  cases d <;> first | (cases hd; done) | (exact absurd rfl (hn _)) | (simp_arith [semIsi]; done)
/-! ### winds drawn -/
theorem lets_ok {v : Int} (hk : Dk R S) (v0 : 0 ≤ v) (v1 : v ≤ 5) (q : ∀ a b c d S', -2 ≤ a → a ≤ b → b ≤ 2 → -2 ≤ c → c ≤ d → d ≤ 2 → Dk R S' → Q (.tup [.int a, .int b, .int c, .int d], S')) : Ok (callN P (n + 2) 85 [.ref 1, .int v] S) Q := by
  refine Ok_call (f := ⟨2, 4, b85⟩) hf85 rfl ?_
  unfold b85
  simp_arith []
  refine draw_ok hk (by omega) (by omega) fun u S1 u0 u1 k1 => ?_
  simp_arith []
  refine draw_ok k1 (by omega) (by omega) fun z S2 z0 z1 k2 => ?_
  simp_arith []
  refine Ok_at v0 (by simp only [List.length_cons, List.length_nil]; omega) fun o _ mo => ?_
  simp only [List.mem_cons, List.not_mem_nil, or_false] at mo
  rcases mo with rfl | rfl | rfl | rfl | rfl | rfl
  all_goals
    simp_arith []
    exact q _ _ _ _ S2 (by omega) (by omega) (by omega) (by omega) (by omega) (by omega) k2
theorem blowing_ok (hk : Dk R S) (ok : L.Ok) (m0 : 0 ≤ m) (m1 : m ≤ 8) (q : ∀ (W : List WR) S', (∀ w ∈ W, WROk L w) → (W.length : Int) ≤ m → Dk R S' → Q (wnT W, S')) : Ok (callN P (n + 4) 86 [.ref 1, L.dct, .int m] S) Q := by
  have w0 := ok.w0
  have w1 := ok.w1
  have h0 := ok.h0
  have h1 := ok.h1
  have d0 := ok.d0
  have d1 := ok.d1
  refine Ok_call (f := ⟨3, 9, b86⟩) hf86 rfl ?_
  unfold b86
  simp_arith []
  refine draw_ok hk (by omega) (by omega) fun v S1 v0 v1 k1 => ?_
  simp_arith [rangeD_map]
  refine ⟨sm62_i (by omega) (by omega), ?_⟩
  refine Ok_fr0 (enc := D.int) (fun pre env S => Dk R S ∧ ∃ (rows : List WR) (a b : Sl), rows.length = pre.length ∧ (∀ l ∈ rows, WROk L l) ∧ env = [.fz (.ref 1), .fz L.dct, .fz (.int m), .fz (.int L.w), .fz (.int L.h), .fz (.int L.day), .ol (rows.map WR.t), a, b])
    ⟨k1, [], _, _, rfl, fun l hl => (by cases hl), rfl⟩ ?_ ?_
  · rintro pre x post env S hx ⟨hS, rows, a, b, hl, hr, rfl⟩
    have lp : pre.length < 25 := by
      have := congrArg List.length hx
      rw [rangeZ_len, List.length_append, List.length_cons] at this
      omega
    have sz : rows.length < sizeLine := by unfold sizeLine; omega
    have go : ∀ (r : Rm) (a b c d : Int) (S : Sto) (u v : Sl), RmOk L.w L.h L.day r → -2 ≤ a → a ≤ b → b ≤ 2 → -2 ≤ c → c ≤ d → d ≤ 2 → Dk R S → Dk R S ∧ ∃ (rws : List WR) (a' b' : Sl), rws.length = (pre ++ [x]).length ∧ (∀ l ∈ rws, WROk L l) ∧ [Sl.fz (.ref 1), .fz L.dct, .fz (.int m), .fz (.int L.w), .fz (.int L.h), .fz (.int L.day), .ol (rows.map WR.t ++ [.tup [r.t, .tup [.int a, .int b, .int c, .int d]]]), u, v] = [.fz (.ref 1), .fz L.dct, .fz (.int m), .fz (.int L.w), .fz (.int L.h), .fz (.int L.day), .ol (rws.map WR.t), a', b'] := by
      intro r a b c d S u v rok a0 ab b1 c0 cd d1 hS
      refine ⟨hS, rows ++ [⟨r, a, b, c, d⟩], u, v, by simp [hl], fun l hl => ?_, by rw [List.map_append]; rfl⟩
      rcases List.mem_append.mp hl with hl | hl
      · exact hr l hl
      · rw [List.mem_singleton.mp hl]; exact ⟨rok, a0, ab, b1, c0, cd, d1⟩
    simp_arith []
    refine draw_ok hS (by omega) (by omega) fun z S2 z0 z1 k2 => ?_
    simp_arith []
    by_cases c : z = 0
    · simp_arith [c]
      refine draw_ok k2 (by omega) (by omega) fun e S4 e0 e1 k4 => ?_
      simp_arith []
      refine Ok_at e0 (by simp only [List.length_cons, List.length_nil]; omega) fun o _ mo => ?_
      have ho : ∃ v : Int, o = .int v ∧ 0 ≤ v ∧ v ≤ 5 := by
        simp only [List.mem_cons, List.not_mem_nil, or_false] at mo
        rcases mo with rfl | rfl | rfl | rfl | rfl | rfl | rfl | rfl | rfl <;> exact ⟨_, rfl, by omega, by omega⟩
      obtain ⟨v, rfl, v0', v1'⟩ := ho
      clear mo
      simp_arith []
      refine lets_ok k4 v0' v1' fun a b c d S5 a0 ab b1 c0 cd d1 k5 => ?_
      simp_arith [List.length_map, sz]
      exact go ⟨0, 0, L.w - 1, L.h - 1, 0, L.day⟩ a b c d S5 _ _ (show RmOk L.w L.h L.day ⟨0, 0, L.w - 1, L.h - 1, 0, L.day⟩ from ⟨⟨by show (0 : Int) ≤ 0; omega, by show (0 : Int) ≤ 0; omega, by show 0 ≤ L.w - 1; omega, by show 0 ≤ L.h - 1; omega, by show L.w - 1 < L.w; omega, by show L.h - 1 < L.h; omega⟩, by show (0 : Int) ≤ 0; omega, by show 0 ≤ L.day; omega, by show L.day ≤ L.day; omega⟩) a0 ab b1 c0 cd d1 k5
    · simp_arith [c]
      refine room_ok k2 w0 w1 h0 h1 d0 d1 fun r S3 rok k3 => ?_
      simp_arith []
      refine draw_ok k3 (by omega) (by omega) fun e S4 e0 e1 k4 => ?_
      simp_arith []
      refine Ok_at e0 (by simp only [List.length_cons, List.length_nil]; omega) fun o _ mo => ?_
      have ho : ∃ v : Int, o = .int v ∧ 0 ≤ v ∧ v ≤ 5 := by
        simp only [List.mem_cons, List.not_mem_nil, or_false] at mo
        rcases mo with rfl | rfl | rfl | rfl | rfl | rfl | rfl | rfl | rfl <;> exact ⟨_, rfl, by omega, by omega⟩
      obtain ⟨v, rfl, v0', v1'⟩ := ho
      clear mo
      simp_arith []
      refine lets_ok k4 v0' v1' fun a b c d S5 a0 ab b1 c0 cd d1 k5 => ?_
      simp_arith [List.length_map, sz]
      exact go r a b c d S5 _ _ rok a0 ab b1 c0 cd d1 k5
  · rintro env S ⟨hS, rows, a, b, hl, hr, rfl⟩
    simp_arith []
    rw [rangeZ_len] at hl
    exact q rows S hr (by omega) hS
end
end Wf
-- ENC2
set_option Elab.async false
set_option linter.all false
set_option maxRecDepth 100000
namespace Wf
open PySem L2
local macro_rules | `(tactic| simp_arith only [$xs,*]) => `(tactic| simp +decide only [Ok_cons, Ok_nil, SK_nx, SK_rt, FK_rt, FK_nx, evS, evE, evP, evEs, evQs, evPs, evO, evC, evI, evMs, setAll, ownS, Ok_bind, Ok_map, Ok_some, Ok_none, Ok_ite, getS, peekS, setS, wipeS, orc, permA, keyOf, List.map_cons, List.map_nil, List.cons_append, List.nil_append, List.append_nil, List.replicate, List.length_cons, List.length_nil, List.getElem?_cons_zero, List.getElem?_cons_succ, List.set_cons_zero, List.set_cons_succ, Option.map_some, Option.bind_some, Option.map_none, Option.bind_none, asgT, asgTs, sq_t, sq_l, Ts.len, starD, List.take_succ_cons, List.take_zero, List.drop_succ_cons, List.drop_zero, List.take_nil, List.drop_nil, List.flatten_cons, List.flatten_nil, List.foldl_cons, List.foldl_nil, tp_n, tp_b, tp_i, tp_s, tp_t, tp_l, tp_d, tp_k, tp_c, tp_r0, tp_r1, ix_l, ix_t, ix_k, ix_d, ix_di, at0, at1, at2, at3, at4, at5, at6, at7, atm1, atm2, atm3, b_add, b_sub, b_mul, b_div, b_mod, b_pow, b_addT, b_addL, b_mulL, c_lt, c_le, c_gt, c_ge, c_eq, c_ne, c_eqs, c_nes, c_is, c_isnt, n_n, n_t, n_i, n_l, bl_b, int_i, f_len, f_lenT, f_min, f_max, f_min3, f_max3, f_abs, f_intB, f_int, f_tup, f_tupT, f_lst, f_lstT, f_sum, r_l0, r_l1, ints_map, c_neNil, c_eqNil, c_ne00, sz0, pt0, pt1, pt2, isi_i, isi_t, isi_n, isi_b, isi_l, isi_s, cutT, cutL, cut_to, cut_from, fold_and, fold_or, fold_ite, fold_iteI, fold_iteB, fold_flt, ite_bF, ite_bT, szle, szlt, sm62_i, tp_Bx, sq_Bx, ix_Bx_0, ix_Bx_1, ix_Bx_2, ix_Bx_3, ix_Bx_m1, ix_Bx_m2, ix_Bx_m3, len_Bx, non_Bx, tp_Rm, sq_Rm, ix_Rm_0, ix_Rm_1, ix_Rm_2, ix_Rm_3, ix_Rm_4, ix_Rm_5, ix_Rm_m1, ix_Rm_m2, ix_Rm_m3, len_Rm, non_Rm, tp_Pd, sq_Pd, ix_Pd_0, ix_Pd_1, ix_Pd_2, ix_Pd_3, ix_Pd_4, ix_Pd_m1, ix_Pd_m2, ix_Pd_m3, len_Pd, non_Pd, tp_Fy, sq_Fy, ix_Fy_0, ix_Fy_1, ix_Fy_2, ix_Fy_3, ix_Fy_m1, ix_Fy_m2, ix_Fy_m3, len_Fy, non_Fy, tp_St, sq_St, ix_St_0, ix_St_1, ix_St_2, ix_St_3, ix_St_m1, ix_St_m2, ix_St_m3, len_St, non_St, tp_Flt, sq_Flt, ix_Flt_0, ix_Flt_1, ix_Flt_2, ix_Flt_3, ix_Flt_4, ix_Flt_m1, ix_Flt_m2, ix_Flt_m3, len_Flt, non_Flt, tp_Ld, ix_Ld_w, ix_Ld_h, ix_Ld_d, ix_Ld_hs, ix_Ld_bar, ix_Ld_peo, ix_Ld_pads, tp_hs, tp_Tk, tp_Row, tp_way, sq_way, len_way, non_Row, reduceIte, if_true, if_false, ite_true, ite_false, if_false_right, if_false_left, decide_eq_true_eq, Bool.not_eq_true', Bool.not_true, Bool.not_false, decide_eq_false_iff_not, Bool.false_eq_true, Bool.true_and, Bool.and_true, Bool.false_and, Bool.and_false, Bool.or_true, Bool.or_false, Bool.false_or, Bool.true_or, reduceCtorEq, true_and, and_true, Int.reduceLT, Int.reduceLE, Int.reducePow, Int.reduceNeg, Int.reduceMul, Int.reduceAdd, Int.reduceSub, Int.reduceToNat, Int.reduceEq, na10, Nat.reducePow, Nat.reduceLT, Nat.reduceLeDiff, Nat.reduceAdd, Nat.reduceSub, true_or, or_true, and_self, decide_true, decide_false, Bool.decide_eq_true, Bool.and_self, Bool.not_not, eq_self, not_true_eq_false, not_false_eq_true, $xs,*])
local macro_rules | `(tactic| simp_arith only [$xs,*] at $h:ident) => `(tactic| simp +decide only [Ok_cons, Ok_nil, SK_nx, SK_rt, FK_rt, FK_nx, evS, evE, evP, evEs, evQs, evPs, evO, evC, evI, evMs, setAll, ownS, Ok_bind, Ok_map, Ok_some, Ok_none, Ok_ite, getS, peekS, setS, wipeS, orc, permA, keyOf, List.map_cons, List.map_nil, List.cons_append, List.nil_append, List.append_nil, List.replicate, List.length_cons, List.length_nil, List.getElem?_cons_zero, List.getElem?_cons_succ, List.set_cons_zero, List.set_cons_succ, Option.map_some, Option.bind_some, Option.map_none, Option.bind_none, asgT, asgTs, sq_t, sq_l, Ts.len, starD, List.take_succ_cons, List.take_zero, List.drop_succ_cons, List.drop_zero, List.take_nil, List.drop_nil, List.flatten_cons, List.flatten_nil, List.foldl_cons, List.foldl_nil, tp_n, tp_b, tp_i, tp_s, tp_t, tp_l, tp_d, tp_k, tp_c, tp_r0, tp_r1, ix_l, ix_t, ix_k, ix_d, ix_di, at0, at1, at2, at3, at4, at5, at6, at7, atm1, atm2, atm3, b_add, b_sub, b_mul, b_div, b_mod, b_pow, b_addT, b_addL, b_mulL, c_lt, c_le, c_gt, c_ge, c_eq, c_ne, c_eqs, c_nes, c_is, c_isnt, n_n, n_t, n_i, n_l, bl_b, int_i, f_len, f_lenT, f_min, f_max, f_min3, f_max3, f_abs, f_intB, f_int, f_tup, f_tupT, f_lst, f_lstT, f_sum, r_l0, r_l1, ints_map, c_neNil, c_eqNil, c_ne00, sz0, pt0, pt1, pt2, isi_i, isi_t, isi_n, isi_b, isi_l, isi_s, cutT, cutL, cut_to, cut_from, fold_and, fold_or, fold_ite, fold_iteI, fold_iteB, fold_flt, ite_bF, ite_bT, szle, szlt, sm62_i, tp_Bx, sq_Bx, ix_Bx_0, ix_Bx_1, ix_Bx_2, ix_Bx_3, ix_Bx_m1, ix_Bx_m2, ix_Bx_m3, len_Bx, non_Bx, tp_Rm, sq_Rm, ix_Rm_0, ix_Rm_1, ix_Rm_2, ix_Rm_3, ix_Rm_4, ix_Rm_5, ix_Rm_m1, ix_Rm_m2, ix_Rm_m3, len_Rm, non_Rm, tp_Pd, sq_Pd, ix_Pd_0, ix_Pd_1, ix_Pd_2, ix_Pd_3, ix_Pd_4, ix_Pd_m1, ix_Pd_m2, ix_Pd_m3, len_Pd, non_Pd, tp_Fy, sq_Fy, ix_Fy_0, ix_Fy_1, ix_Fy_2, ix_Fy_3, ix_Fy_m1, ix_Fy_m2, ix_Fy_m3, len_Fy, non_Fy, tp_St, sq_St, ix_St_0, ix_St_1, ix_St_2, ix_St_3, ix_St_m1, ix_St_m2, ix_St_m3, len_St, non_St, tp_Flt, sq_Flt, ix_Flt_0, ix_Flt_1, ix_Flt_2, ix_Flt_3, ix_Flt_4, ix_Flt_m1, ix_Flt_m2, ix_Flt_m3, len_Flt, non_Flt, tp_Ld, ix_Ld_w, ix_Ld_h, ix_Ld_d, ix_Ld_hs, ix_Ld_bar, ix_Ld_peo, ix_Ld_pads, tp_hs, tp_Tk, tp_Row, tp_way, sq_way, len_way, non_Row, reduceIte, if_true, if_false, ite_true, ite_false, if_false_right, if_false_left, decide_eq_true_eq, Bool.not_eq_true', Bool.not_true, Bool.not_false, decide_eq_false_iff_not, Bool.false_eq_true, Bool.true_and, Bool.and_true, Bool.false_and, Bool.and_false, Bool.or_true, Bool.or_false, Bool.false_or, Bool.true_or, reduceCtorEq, true_and, and_true, Int.reduceLT, Int.reduceLE, Int.reducePow, Int.reduceNeg, Int.reduceMul, Int.reduceAdd, Int.reduceSub, Int.reduceToNat, Int.reduceEq, na10, Nat.reducePow, Nat.reduceLT, Nat.reduceLeDiff, Nat.reduceAdd, Nat.reduceSub, true_or, or_true, and_self, decide_true, decide_false, Bool.decide_eq_true, Bool.and_self, Bool.not_not, eq_self, not_true_eq_false, not_false_eq_true, $xs,*] at $h:ident)
local macro_rules | `(tactic| simp_arith [$xs,*]) => `(tactic| repeat (first | with_reducible (refine SKn ?_) | with_reducible (refine SKr ?_) | with_reducible (refine Okc ?_) | with_reducible (refine Okn ?_) | with_reducible (refine FRn ?_) | with_reducible (refine FRr ?_) | with_reducible (refine fr_cons ?_) | with_reducible (refine fr_nil ?_) | simp +decide only [FK_rt, FK_nx, evS, evE, evP, evEs, evQs, evPs, evO, evC, evI, evMs, setAll, ownS, Ok_bind, Ok_map, Ok_some, Ok_none, Ok_ite, getS, peekS, setS, wipeS, orc, permA, keyOf, List.map_cons, List.map_nil, List.cons_append, List.nil_append, List.append_nil, List.replicate, List.length_cons, List.length_nil, List.getElem?_cons_zero, List.getElem?_cons_succ, List.set_cons_zero, List.set_cons_succ, Option.map_some, Option.bind_some, Option.map_none, Option.bind_none, asgT, asgTs, sq_t, sq_l, Ts.len, starD, List.take_succ_cons, List.take_zero, List.drop_succ_cons, List.drop_zero, List.take_nil, List.drop_nil, List.flatten_cons, List.flatten_nil, List.foldl_cons, List.foldl_nil, tp_n, tp_b, tp_i, tp_s, tp_t, tp_l, tp_d, tp_k, tp_c, tp_r0, tp_r1, ix_l, ix_t, ix_k, ix_d, ix_di, at0, at1, at2, at3, at4, at5, at6, at7, atm1, atm2, atm3, b_add, b_sub, b_mul, b_div, b_mod, b_pow, b_addT, b_addL, b_mulL, c_lt, c_le, c_gt, c_ge, c_eq, c_ne, c_eqs, c_nes, c_is, c_isnt, n_n, n_t, n_i, n_l, bl_b, int_i, f_len, f_lenT, f_min, f_max, f_min3, f_max3, f_abs, f_intB, f_int, f_tup, f_tupT, f_lst, f_lstT, f_sum, r_l0, r_l1, ints_map, c_neNil, c_eqNil, c_ne00, sz0, pt0, pt1, pt2, isi_i, isi_t, isi_n, isi_b, isi_l, isi_s, cutT, cutL, cut_to, cut_from, fold_and, fold_or, fold_ite, fold_iteI, fold_iteB, fold_flt, ite_bF, ite_bT, szle, szlt, sm62_i, tp_Bx, sq_Bx, ix_Bx_0, ix_Bx_1, ix_Bx_2, ix_Bx_3, ix_Bx_m1, ix_Bx_m2, ix_Bx_m3, len_Bx, non_Bx, tp_Rm, sq_Rm, ix_Rm_0, ix_Rm_1, ix_Rm_2, ix_Rm_3, ix_Rm_4, ix_Rm_5, ix_Rm_m1, ix_Rm_m2, ix_Rm_m3, len_Rm, non_Rm, tp_Pd, sq_Pd, ix_Pd_0, ix_Pd_1, ix_Pd_2, ix_Pd_3, ix_Pd_4, ix_Pd_m1, ix_Pd_m2, ix_Pd_m3, len_Pd, non_Pd, tp_Fy, sq_Fy, ix_Fy_0, ix_Fy_1, ix_Fy_2, ix_Fy_3, ix_Fy_m1, ix_Fy_m2, ix_Fy_m3, len_Fy, non_Fy, tp_St, sq_St, ix_St_0, ix_St_1, ix_St_2, ix_St_3, ix_St_m1, ix_St_m2, ix_St_m3, len_St, non_St, tp_Flt, sq_Flt, ix_Flt_0, ix_Flt_1, ix_Flt_2, ix_Flt_3, ix_Flt_4, ix_Flt_m1, ix_Flt_m2, ix_Flt_m3, len_Flt, non_Flt, tp_Ld, ix_Ld_w, ix_Ld_h, ix_Ld_d, ix_Ld_hs, ix_Ld_bar, ix_Ld_peo, ix_Ld_pads, tp_hs, tp_Tk, tp_Row, tp_way, sq_way, len_way, non_Row, reduceIte, if_true, if_false, ite_true, ite_false, if_false_right, if_false_left, decide_eq_true_eq, Bool.not_eq_true', Bool.not_true, Bool.not_false, decide_eq_false_iff_not, Bool.false_eq_true, Bool.true_and, Bool.and_true, Bool.false_and, Bool.and_false, Bool.or_true, Bool.or_false, Bool.false_or, Bool.true_or, reduceCtorEq, true_and, and_true, Int.reduceLT, Int.reduceLE, Int.reducePow, Int.reduceNeg, Int.reduceMul, Int.reduceAdd, Int.reduceSub, Int.reduceToNat, Int.reduceEq, na10, Nat.reducePow, Nat.reduceLT, Nat.reduceLeDiff, Nat.reduceAdd, Nat.reduceSub, true_or, or_true, and_self, decide_true, decide_false, Bool.decide_eq_true, Bool.and_self, Bool.not_not, eq_self, not_true_eq_false, not_false_eq_true, $xs,*]))
theorem Dk.app {R S X : Sto} (h : Dk R S) : Dk (R ++ X) (S ++ X) := by
  obtain ⟨cs, t, c, h1, rfl⟩ := h
  exact ⟨cs, t, c, h1, rfl⟩
theorem b_mulT {xs : List D} {k : Int} : semBin .Mult (.tup xs) (.int k) = if xs.isEmpty = false ∧ 2 ≤ k ∧ k ≤ 1000 ∧ xs.length ≤ 1000 then some (.tup (List.replicate k.toNat xs).flatten) else none := rfl
theorem wi_map {l : List (Int × Int)} : (l.map Wi.w).map Wi.t = l.map pr := by rw [List.map_map]; rfl
theorem pr_rp {p : Int × Int} (h : PrOk p) : Rp (pr p) 33 1 := by
  obtain ⟨⟨h1, h2⟩, h3, h4⟩ := h
  exact wind_rp ⟨by omega, by omega⟩ ⟨by omega, by omega⟩
def ItOk (w : Wi) : Prop := WiOk w ∧ Rp w.t 900 3
def ThOk (d : D) : Prop := (∃ its : List Wi, d = .tup (its.map Wi.t) ∧ (∀ w ∈ its, ItOk w) ∧ its.length ≤ 60) ∨ (plD d = true ∧ (∀ xs, d ≠ .tup xs) ∧ (Rp d 60000 4 ∨ d = .dct []))
theorem it_w {p : Int × Int} (h : PrOk p) : ItOk (.w p) := ⟨h, (pr_rp h).wide (by decide) (by decide)⟩
theorem it_ws {l : List (Int × Int)} (h : ∀ p ∈ l, PrOk p) : ∀ w ∈ l.map Wi.w, ItOk w := by
  intro w hw
  obtain ⟨p, hp, rfl⟩ := List.mem_map.mp hw
  exact it_w (h p hp)
theorem th_w {l : List (Int × Int)} (h : ∀ p ∈ l, PrOk p) (hl : l.length ≤ 60) : ThOk (.tup (l.map pr)) := .inl ⟨l.map Wi.w, by rw [wi_map], it_ws h, by rw [List.length_map]; exact hl⟩
/-- one thing put between winds -/
theorem th_put {l m : List (Int × Int)} {w : Wi} (h : ∀ p ∈ l, PrOk p) (h2 : ∀ p ∈ m, PrOk p) (hw : ItOk w) (hl : l.length + m.length ≤ 50) : ThOk (.tup (l.map pr ++ [w.t] ++ m.map pr)) := by
  refine .inl ⟨l.map Wi.w ++ [w] ++ m.map Wi.w, by rw [List.map_append, List.map_append, wi_map, wi_map]; rfl, ?_, by simp; omega⟩
  intro z hz
  rcases List.mem_append.mp hz with hz | hz
  · rcases List.mem_append.mp hz with hz | hz
    · exact it_ws h z hz
    · rw [List.mem_singleton.mp hz]; exact hw
  · exact it_ws h2 z hz
theorem th_end {l : List (Int × Int)} {w : Wi} (h : ∀ p ∈ l, PrOk p) (hw : ItOk w) (hl : l.length ≤ 50) : ThOk (.tup (l.map pr ++ [w.t])) := by
  have := th_put (m := []) h (fun _ h => by cases h) hw (by simpa using hl)
  simpa using this
theorem odd_ws {l : List (Int × Int)} : Odd (.tup (l.map pr)) := by
  match l with
  | [] => exact .ln (by simp)
  | [a] => exact .ln (by simp)
  | [a, b] => exact .el rfl rfl (pr_cm.up (by decide)) (pr_cm.up (by decide)) rfl
  | a :: b :: c :: r => exact .ln (by simp)
theorem it_b {x y : D} (h1 : Rp x 100 0) (h2 : Rp y 100 0) (h : Odd (.tup [x, y])) : ItOk (.o (.tup [x, y])) := ⟨h, (Rp.tup (RpS.cons h1 (RpS.cons h2 RpS.nil))).wide (by decide) (by decide)⟩
theorem rp0 {i : Int} (h : -2 ≤ i ∧ i ≤ 2) : Rp (.int i) 100 0 := (Rp.i (i := i) ⟨by omega, by omega⟩).wide (by decide) (by decide)
theorem rps_ws {l : List (Int × Int)} (h : ∀ p ∈ l, PrOk p) (hl : l.length ≤ 25) : RpS (l.map pr) 880 1 := (RpS.map fun p hp => pr_rp (h p hp)).wide (by omega) (by decide)
section
variable {P : Prg} [HasF P Gk37] [HasF P Gk07] [HasF P Gk08] [HasF P Gk09] {n i j : Nat} {R S S0 : Sto} {x y c m : Int} {L : Land} {F : Flt} {s b a : Int} {Q : D × Sto → Prop} {W : List WR} {t : Option Int} {wd : Option Str} {pre : List St} {q : St}
theorem run_ok (hk : Dk R S) (ok : L.Ok) (hF : FltOk L F) (hW : ∀ w ∈ W, WROk L w) (s0 : 0 ≤ s) (s1 : s ≤ L.day) (q : ∀ (ws : List (Int × Int)) (d1 d2 : D) S', (∀ p ∈ ws, PrOk p) → ws.length ≤ 24 → Dk R S' → Q (.tup [.tup (ws.map pr), d1, d2], S')) :
    Ok (callN P (n + 5) 89 [.ref 1, L.dct, wnT W, F.t, .int s, turnT t] S) Q := by
  have d1 := ok.d1
  refine Ok_call (f := ⟨6, 13, b89⟩) hf89 rfl ?_
  unfold b89
  simp_arith [lhurts_eq ok hF.fy.c0, rangeD_map, sm62_i (show -1000000 ≤ s by omega) (show s ≤ 1000000 by omega), sm62_i (show -1000000 ≤ L.day by omega) (show L.day ≤ 1000000 by omega)]
  refine Ok_fr0 (enc := D.int) (fun done env S => Dk R S ∧ ∃ (ws : List (Int × Int)) (pre : List St) (q : St) (wd : Option Str) (a9 a10 a11 a12 : Sl), ws.length ≤ done.length ∧ pre.length ≤ done.length ∧ (∀ p ∈ ws, PrOk p) ∧
      env = [.fz (.ref 1), .fz L.dct, .fz (wnT W), .fz F.t, .fz (.int s), .fz (turnT t), .ol (ws.map pr), .fz (.lst ((pre ++ [q]).map St.t)), .fz (wordT wd), a9, a10, a11, a12])
    ⟨hk, [], [], F.st, _, _, _, _, _, by simp, by simp, fun l hl => (by cases hl), rfl⟩ ?_ ?_
  · rintro done x post env S hx ⟨hS, ws, pre, q, wd, a9, a10, a11, a12, hl, pl, hr, rfl⟩
    have hx2 : s ≤ x := by
      have : x ∈ rangeZ s L.day := by rw [hx]; simp
      exact (rangeZ_mem.mp this).1
    have lp : done.length < 25 := by
      have := congrArg List.length hx
      rw [rangeZ_len, List.length_append, List.length_cons] at this
      omega
    cases wd with
    | some v =>
      have e2 : wordT (some v) = .str v := rfl
      have e3 : isNon (.str v) = false := rfl
      simp_arith [e2, e3]
      exact ⟨hS, ws, pre, q, some v, _, _, _, _, by simp; omega, by simp; omega, hr, rfl⟩
    | none =>
      have e2 : wordT none = .non := rfl
      have il := ixLast (pre := pre) (q := q)
      have sz : ((pre ++ [q]).map St.t).length + 1 ≤ sizeLine := by simp [sizeLine]; omega
      have sz0 : ((pre ++ [q]).map St.t).length + 0 ≤ sizeLine := by simp [sizeLine]; omega
      have sz' : (pre ++ [q]).length + 1 ≤ sizeLine := by simp [sizeLine]; omega
      have sz0' : (pre ++ [q]).length + 0 ≤ sizeLine := by simp [sizeLine]; omega
      have sz2 : ws.length < sizeLine := by unfold sizeLine; omega
      obtain ⟨o1, o2, o3⟩ := windsF_ok (x := q.x) (y := q.y) (t := x) hW
      simp_arith [e2, il, lwinds_at_eq hW]
      refine pick_ok hS (by rw [List.length_map]; exact o2) (by rw [List.length_map]; omega) fun w S2 mw k2 => ?_
      obtain ⟨p, hp, rfl⟩ := List.mem_map.mp mw
      have po := o1 p hp
      obtain ⟨⟨p1, p2⟩, p3, p4⟩ := po
      have po := o1 p hp
      have eb := fun S => lbeat_eq (P := P) (n := n) (S := S) (r := rowAt F s x t) (b := x) (q := q) (wx := p.1) (wy := p.2) ok hF ⟨by omega, by omega⟩ ⟨by omega, by omega⟩
      have e5 : D.tup [.int p.1, .int p.2] = pr p := rfl
      rw [e5] at eb
      have e6 : ∀ q' : St, (pre ++ [q]).map St.t ++ [q'.t] = (pre ++ [q] ++ [q']).map St.t := fun q' => by simp
      have e7 : ws.map pr ++ [pr p] = (ws ++ [p]).map pr := by simp
      have hr2 : ∀ z ∈ ws ++ [p], PrOk z := fun z hz => by
        rcases List.mem_append.mp hz with hz | hz
        · exact hr z hz
        · rw [List.mem_singleton.mp hz]; exact po
      cases hb : beatF L F (rowAt F s x t) x q p.1 p.2 with
      | st q' =>
        simp only [hb] at eb
        have e4 : (Out.st q').t = .tup [q'.t, wordT none] := rfl
        rw [e4] at eb
        simp_arith [lrow_eq hx2, eb, List.length_map, sz2, e7, sz', e6]
        exact ⟨k2, ws ++ [p], pre ++ [q], q', none, _, _, _, _, by simp; omega, by simp; omega, hr2, rfl⟩
      | br v =>
        simp only [hb] at eb
        have e4 : (Out.br v).t = .tup [.non, wordT (some v)] := rfl
        rw [e4] at eb
        simp_arith [lrow_eq hx2, eb, List.length_map, sz2, e7, sz0']
        exact ⟨k2, ws ++ [p], pre, q, some v, _, _, _, _, by simp; omega, by simp; omega, hr2, rfl⟩
  · rintro env S ⟨hS, ws, pre, q', wd, a9, a10, a11, a12, hl, pl, hr, rfl⟩
    rw [rangeZ_len] at hl
    have il := ixLast (pre := pre) (q := q')
    cases wd with
    | some v =>
      have e2 : wordT (some v) = .str v := rfl
      have e3 : isNon (.str v) = false := rfl
      simp_arith [e2, e3]
      exact q ws _ _ S hr (by omega) hS
    | none =>
      have e2 : wordT none = .non := rfl
      cases c3 : homeF L F q'.x q'.y with
      | true =>
        simp_arith [e2, il, lhome_at_eq ok, c3]
        exact q ws _ _ S hr (by omega) hS
      | false =>
        simp_arith [e2, il, lhome_at_eq ok, c3]
        exact q ws _ _ S hr (by omega) hS
theorem thing_ok {ws : List (Int × Int)} (hk : Dk R S) (hw : ∀ p ∈ ws, PrOk p) (hl : ws.length ≤ 24) (q : ∀ d S', ThOk d → Dk R S' → Q (d, S')) : Ok (callN P (n + 3) 91 [.ref 1, .tup (ws.map pr)] S) Q := by
  have wt : ∀ k, ∀ p ∈ ws.take k, PrOk p := fun k p hp => hw p (List.mem_of_mem_take hp)
  have wr : ∀ k, ∀ p ∈ ws.drop k, PrOk p := fun k p hp => hw p (List.mem_of_mem_drop hp)
  have lt : ∀ k, (ws.take k).length ≤ 24 := fun k => by have := List.length_take_le k ws; simp; omega
  have lr : ∀ k, (ws.drop k).length ≤ 24 := fun k => by simp; omega
  refine Ok_call (f := ⟨2, 8, b91⟩) hf91 rfl ?_
  unfold b91
  simp_arith []
  refine draw_ok hk (by omega) (by omega) fun v S1 v0 v1 k1 => ?_
  simp_arith [List.length_map]
  refine draw_ok k1 (by omega) (by omega) fun u S2 u0 u1 k2 => ?_
  simp_arith []
  refine draw_ok k2 (by omega) (by omega) fun g1 S3 g10 g11 k3 => ?_
  simp_arith []
  refine draw_ok k3 (by omega) (by omega) fun g2 S4 g20 g21 k4 => ?_
  simp_arith []
  have gi : ItOk (.w (g1 - 2, g2 - 2)) := it_w ⟨⟨by show -2 ≤ g1 - 2; omega, by show g1 - 2 ≤ 2; omega⟩, ⟨by show -2 ≤ g2 - 2; omega, by show g2 - 2 ≤ 2; omega⟩⟩
  have mt : ∀ k, (ws.map pr).take k = (ws.take k).map pr := fun k => by rw [List.map_take]
  have md : ∀ k, (ws.map pr).drop k = (ws.drop k).map pr := fun k => by rw [List.map_drop]
  have s1 : ws.length + 1 ≤ sizeLine := by unfold sizeLine; omega
  have s2 : ∀ k, (ws.take k).length + 1 ≤ sizeLine := fun k => by have := lt k; unfold sizeLine; omega
  have s3 : ∀ k j, (ws.take k).length + 1 + (ws.drop j).length ≤ sizeLine := fun k j => by have := lt k; have := lr j; unfold sizeLine; omega
  by_cases c1 : v < 3
  · simp_arith [c1]
    exact q _ _ (th_w hw (by omega)) k4
  by_cases c2 : v = 3
  · simp_arith [c1, c2, cut_to u0, mt]
    exact q _ _ (th_w (wt _) (by have := lt u.toNat; omega)) k4
  by_cases c3 : v = 4
  · simp_arith [c1, c2, c3, List.length_map, s1]
    exact q _ _ (th_end (w := .w (g1 - 2, g2 - 2)) hw gi (by omega)) k4
  by_cases c4 : v = 5
  · simp_arith [c1, c2, c3, c4, cut_to u0, cut_from (show 0 ≤ u + 1 by omega), mt, md, List.length_map, s2, List.length_append, s3]
    exact q _ _ (th_put (w := .w (g1 - 2, g2 - 2)) (wt _) (wr _) gi (by have := lt u.toNat; have := lr (u + 1).toNat; omega)) k4
  by_cases c5 : v = 6
  · simp_arith [c1, c2, c3, c4, c5, cut_to u0, cut_from (show 0 ≤ u + 1 by omega), mt, md, List.length_map, s2, List.length_append, s3]
    exact q _ _ (th_put (w := .o (.tup [.int (g1 - 2), .bl true])) (wt _) (wr _) (it_b (rp0 ⟨by omega, by omega⟩) (Rp.bl.wide (by decide) (Nat.le_refl _)) (.el rfl rfl Cm.int Cm.bl rfl)) (by have := lt u.toNat; have := lr (u + 1).toNat; omega)) k4
  by_cases c6 : v = 7
  · simp_arith [c1, c2, c3, c4, c5, c6, cut_to u0, mt]
    refine pick_ok k4 (by simp) (by simp) fun o S5 mo k5 => ?_
    have oi : ItOk (.o o) := by
      simp only [List.mem_cons, List.not_mem_nil, or_false] at mo
      rcases mo with rfl | rfl | rfl | rfl | rfl | rfl | rfl
      · exact ⟨Odd.nt rfl (fun xs h => (nomatch h)), (Rp.non (k := 0)).wide (by decide) (by decide)⟩
      · exact ⟨Odd.ln (by simp), (Rp.tup (RpS.cons (rp0 ⟨by decide, by decide⟩) RpS.nil)).wide (by decide) (by decide)⟩
      · exact ⟨Odd.ln (by simp), (Rp.tup (RpS.cons (rp0 ⟨by decide, by decide⟩) (RpS.cons (rp0 ⟨by decide, by decide⟩) (RpS.cons (rp0 ⟨by decide, by decide⟩) RpS.nil)))).wide (by decide) (by decide)⟩
      · exact ⟨Odd.nt rfl (fun xs h => (nomatch h)), (Rp.lst (RpS.cons (rp0 ⟨by decide, by decide⟩) (RpS.cons (rp0 ⟨by decide, by decide⟩) RpS.nil))).wide (by decide) (by decide)⟩
      · exact ⟨Odd.nt rfl (fun xs h => (nomatch h)), (rp0 ⟨by decide, by decide⟩).wide (by decide) (by decide)⟩
      · exact ⟨Odd.nt rfl (fun xs h => (nomatch h)), (Rp.str (k := 0) (by decide)).wide (by decide) (by decide)⟩
      · exact ⟨Odd.el rfl rfl (Cm.tup (k := 4) (Cms.cons Cm.int Cms.nil)) Cm.int rfl, (Rp.tup (k := 1) (RpS.cons (Rp.tup (k := 0) (RpS.cons (rp0 ⟨by decide, by decide⟩) RpS.nil)) (RpS.cons ((rp0 ⟨by decide, by decide⟩).wide (Nat.le_refl _) (by decide)) RpS.nil))).wide (by decide) (by decide)⟩
    simp_arith [List.length_map, s2]
    exact q _ _ (th_end (w := .o o) (wt _) oi (by have := lt u.toNat; omega)) k5
  by_cases c7 : v = 8
  · have fb : ∀ i : Int, semBi .bool [.int i] = some (.bl (i != 0)) := fun _ => rfl
    simp_arith [c1, c2, c3, c4, c5, c6, c7, enum_map]
    rw [lc_map (g := fun z : (Int × Int) × Nat => if (z.2 : Int) = u then .tup [.bl (z.1.1 != 0), .int z.1.2] else pr z.1) (by simp [sizeLine]; omega) fun z _ => by
      unfold pr
      by_cases e : (z.2 : Int) = u
      · (simp_arith only [e, fb])
      · (simp_arith only [e, fb])]
    simp_arith []
    refine q _ _ (.inl ⟨ws.zipIdx.map fun z => if (z.2 : Int) = u then .o (.tup [.bl (z.1.1 != 0), .int z.1.2]) else .w z.1, ?_, ?_, by simp; omega⟩) k4
    · rw [List.map_map]
      congr 1
      apply List.map_congr_left
      intro z _
      simp only [Function.comp]
      split <;> rfl
    · intro w hw'
      obtain ⟨z, hz, rfl⟩ := List.mem_map.mp hw'
      have hz2 : z.1 ∈ ws := by
        have := zip_mem hz
        exact List.mem_of_getElem? this
      have po := hw _ hz2
      show ItOk (if _ then _ else _)
      split
      · exact it_b (Rp.bl.wide (by decide) (Nat.le_refl _)) (rp0 po.2) (.el rfl rfl Cm.bl Cm.int rfl)
      · exact it_w po
  have e25 : semBin .Mult (.tup [.tup [.int 0, .int 0]]) (.int 25) = some (.tup ((List.replicate 25 ((0 : Int), (0 : Int))).map pr)) := by
    rw [b_mulT, if_pos ⟨rfl, by decide, by decide, by decide⟩]
    rfl
  simp_arith [c1, c2, c3, c4, c5, c6, c7, e25]
  refine pick_ok k4 (by simp) (by simp) fun o S5 mo k5 => ?_
  simp only [List.mem_cons, List.not_mem_nil, or_false] at mo
  rcases mo with rfl | rfl | rfl | rfl | rfl | rfl | rfl | rfl | rfl | rfl
  · exact q _ _ (.inr ⟨rfl, fun xs h => (nomatch h), .inl ((Rp.non (k := 0)).wide (by decide) (by decide))⟩) k5
  · exact q _ _ (.inr ⟨rfl, fun xs h => (nomatch h), .inl ((Rp.bl (k := 0)).wide (by decide) (by decide))⟩) k5
  · exact q _ _ (.inr ⟨rfl, fun xs h => (nomatch h), .inl ((rp0 ⟨by decide, by decide⟩).wide (by decide) (by decide))⟩) k5
  · exact q _ _ (.inr ⟨rfl, fun xs h => (nomatch h), .inl ((Rp.str (k := 0) (by decide)).wide (by decide) (by decide))⟩) k5
  · exact q _ _ (.inr ⟨rfl, fun xs h => (nomatch h), .inl ((Rp.lst (RpS.nil (k := 0))).wide (by decide) (by decide))⟩) k5
  · exact q _ _ (.inr ⟨rfl, fun xs h => (nomatch h), .inr rfl⟩) k5
  · exact q _ _ (.inl ⟨[], rfl, fun _ h => (nomatch h), by simp⟩) k5
  · exact q _ _ (.inr ⟨rfl, fun xs h => (nomatch h), .inl ((Rp.lst (rps_ws hw (by omega))).wide (by decide) (by decide))⟩) k5
  · refine q _ _ (.inl ⟨[.o (.tup (ws.map pr))], rfl, fun w hw' => ?_, by simp⟩) k5
    rw [List.mem_singleton.mp hw']
    exact ⟨odd_ws, (Rp.tup (rps_ws hw (by omega))).wide (by decide) (by decide)⟩
  · refine q _ _ (th_w (l := List.replicate 25 ((0 : Int), (0 : Int))) (fun p hp => ?_) (by simp)) k5
    rw [List.eq_of_mem_replicate hp]
    exact ⟨⟨by decide, by decide⟩, ⟨by decide, by decide⟩⟩
end
end Wf
set_option Elab.async false
set_option linter.all false
set_option maxRecDepth 100000
set_option maxHeartbeats 4000000
namespace K09
open PySem L2 Wf
def prg : Prg := ⟨Gk37 ++ Gk08 ++ Gk07 ++ Gk09⟩
theorem nd : (prg.fs.map (·.1)).Nodup := by decide +kernel
instance : HasF prg Gk37 := ⟨fun q hq => lk_mem nd (show q ∈ Gk37 ++ Gk08 ++ Gk07 ++ Gk09 from List.mem_append_left _ (List.mem_append_left _ (List.mem_append_left _ (hq))))⟩
instance : HasF prg Gk08 := ⟨fun q hq => lk_mem nd (show q ∈ Gk37 ++ Gk08 ++ Gk07 ++ Gk09 from List.mem_append_left _ (List.mem_append_left _ (List.mem_append_right _ hq)))⟩
instance : HasF prg Gk07 := ⟨fun q hq => lk_mem nd (show q ∈ Gk37 ++ Gk08 ++ Gk07 ++ Gk09 from List.mem_append_left _ (List.mem_append_right _ hq))⟩
instance : HasF prg Gk09 := ⟨fun q hq => lk_mem nd (show q ∈ Gk37 ++ Gk08 ++ Gk07 ++ Gk09 from List.mem_append_right _ hq)⟩
end K09
-- ENC2
set_option Elab.async false
set_option linter.all false
set_option maxRecDepth 100000
namespace Wf
open PySem L2
local macro_rules | `(tactic| simp_arith only [$xs,*]) => `(tactic| simp +decide only [Ok_cons, Ok_nil, SK_nx, SK_rt, FK_rt, FK_nx, evS, evE, evP, evEs, evQs, evPs, evO, evC, evI, evMs, setAll, ownS, Ok_bind, Ok_map, Ok_some, Ok_none, Ok_ite, getS, peekS, setS, wipeS, orc, permA, keyOf, List.map_cons, List.map_nil, List.cons_append, List.nil_append, List.append_nil, List.replicate, List.length_cons, List.length_nil, List.getElem?_cons_zero, List.getElem?_cons_succ, List.set_cons_zero, List.set_cons_succ, Option.map_some, Option.bind_some, Option.map_none, Option.bind_none, asgT, asgTs, sq_t, sq_l, Ts.len, starD, List.take_succ_cons, List.take_zero, List.drop_succ_cons, List.drop_zero, List.take_nil, List.drop_nil, List.flatten_cons, List.flatten_nil, List.foldl_cons, List.foldl_nil, tp_n, tp_b, tp_i, tp_s, tp_t, tp_l, tp_d, tp_k, tp_c, tp_r0, tp_r1, ix_l, ix_t, ix_k, ix_d, ix_di, at0, at1, at2, at3, at4, at5, at6, at7, atm1, atm2, atm3, b_add, b_sub, b_mul, b_div, b_mod, b_pow, b_addT, b_addL, b_mulL, c_lt, c_le, c_gt, c_ge, c_eq, c_ne, c_eqs, c_nes, c_is, c_isnt, n_n, n_t, n_i, n_l, bl_b, int_i, f_len, f_lenT, f_min, f_max, f_min3, f_max3, f_abs, f_intB, f_int, f_tup, f_tupT, f_lst, f_lstT, f_sum, r_l0, r_l1, ints_map, c_neNil, c_eqNil, c_ne00, sz0, pt0, pt1, pt2, isi_i, isi_t, isi_n, isi_b, isi_l, isi_s, cutT, cutL, cut_to, cut_from, fold_and, fold_or, fold_ite, fold_iteI, fold_iteB, fold_flt, ite_bF, ite_bT, szle, szlt, sm62_i, tp_Bx, sq_Bx, ix_Bx_0, ix_Bx_1, ix_Bx_2, ix_Bx_3, ix_Bx_m1, ix_Bx_m2, ix_Bx_m3, len_Bx, non_Bx, tp_Rm, sq_Rm, ix_Rm_0, ix_Rm_1, ix_Rm_2, ix_Rm_3, ix_Rm_4, ix_Rm_5, ix_Rm_m1, ix_Rm_m2, ix_Rm_m3, len_Rm, non_Rm, tp_Pd, sq_Pd, ix_Pd_0, ix_Pd_1, ix_Pd_2, ix_Pd_3, ix_Pd_4, ix_Pd_m1, ix_Pd_m2, ix_Pd_m3, len_Pd, non_Pd, tp_Fy, sq_Fy, ix_Fy_0, ix_Fy_1, ix_Fy_2, ix_Fy_3, ix_Fy_m1, ix_Fy_m2, ix_Fy_m3, len_Fy, non_Fy, tp_St, sq_St, ix_St_0, ix_St_1, ix_St_2, ix_St_3, ix_St_m1, ix_St_m2, ix_St_m3, len_St, non_St, tp_Flt, sq_Flt, ix_Flt_0, ix_Flt_1, ix_Flt_2, ix_Flt_3, ix_Flt_4, ix_Flt_m1, ix_Flt_m2, ix_Flt_m3, len_Flt, non_Flt, tp_Ld, ix_Ld_w, ix_Ld_h, ix_Ld_d, ix_Ld_hs, ix_Ld_bar, ix_Ld_peo, ix_Ld_pads, tp_hs, tp_Tk, tp_Row, tp_way, sq_way, len_way, non_Row, reduceIte, if_true, if_false, ite_true, ite_false, if_false_right, if_false_left, decide_eq_true_eq, Bool.not_eq_true', Bool.not_true, Bool.not_false, decide_eq_false_iff_not, Bool.false_eq_true, Bool.true_and, Bool.and_true, Bool.false_and, Bool.and_false, Bool.or_true, Bool.or_false, Bool.false_or, Bool.true_or, reduceCtorEq, true_and, and_true, Int.reduceLT, Int.reduceLE, Int.reducePow, Int.reduceNeg, Int.reduceMul, Int.reduceAdd, Int.reduceSub, Int.reduceToNat, Int.reduceEq, na10, Nat.reducePow, Nat.reduceLT, Nat.reduceLeDiff, Nat.reduceAdd, Nat.reduceSub, true_or, or_true, and_self, decide_true, decide_false, Bool.decide_eq_true, Bool.and_self, Bool.not_not, eq_self, not_true_eq_false, not_false_eq_true, $xs,*])
local macro_rules | `(tactic| simp_arith only [$xs,*] at $h:ident) => `(tactic| simp +decide only [Ok_cons, Ok_nil, SK_nx, SK_rt, FK_rt, FK_nx, evS, evE, evP, evEs, evQs, evPs, evO, evC, evI, evMs, setAll, ownS, Ok_bind, Ok_map, Ok_some, Ok_none, Ok_ite, getS, peekS, setS, wipeS, orc, permA, keyOf, List.map_cons, List.map_nil, List.cons_append, List.nil_append, List.append_nil, List.replicate, List.length_cons, List.length_nil, List.getElem?_cons_zero, List.getElem?_cons_succ, List.set_cons_zero, List.set_cons_succ, Option.map_some, Option.bind_some, Option.map_none, Option.bind_none, asgT, asgTs, sq_t, sq_l, Ts.len, starD, List.take_succ_cons, List.take_zero, List.drop_succ_cons, List.drop_zero, List.take_nil, List.drop_nil, List.flatten_cons, List.flatten_nil, List.foldl_cons, List.foldl_nil, tp_n, tp_b, tp_i, tp_s, tp_t, tp_l, tp_d, tp_k, tp_c, tp_r0, tp_r1, ix_l, ix_t, ix_k, ix_d, ix_di, at0, at1, at2, at3, at4, at5, at6, at7, atm1, atm2, atm3, b_add, b_sub, b_mul, b_div, b_mod, b_pow, b_addT, b_addL, b_mulL, c_lt, c_le, c_gt, c_ge, c_eq, c_ne, c_eqs, c_nes, c_is, c_isnt, n_n, n_t, n_i, n_l, bl_b, int_i, f_len, f_lenT, f_min, f_max, f_min3, f_max3, f_abs, f_intB, f_int, f_tup, f_tupT, f_lst, f_lstT, f_sum, r_l0, r_l1, ints_map, c_neNil, c_eqNil, c_ne00, sz0, pt0, pt1, pt2, isi_i, isi_t, isi_n, isi_b, isi_l, isi_s, cutT, cutL, cut_to, cut_from, fold_and, fold_or, fold_ite, fold_iteI, fold_iteB, fold_flt, ite_bF, ite_bT, szle, szlt, sm62_i, tp_Bx, sq_Bx, ix_Bx_0, ix_Bx_1, ix_Bx_2, ix_Bx_3, ix_Bx_m1, ix_Bx_m2, ix_Bx_m3, len_Bx, non_Bx, tp_Rm, sq_Rm, ix_Rm_0, ix_Rm_1, ix_Rm_2, ix_Rm_3, ix_Rm_4, ix_Rm_5, ix_Rm_m1, ix_Rm_m2, ix_Rm_m3, len_Rm, non_Rm, tp_Pd, sq_Pd, ix_Pd_0, ix_Pd_1, ix_Pd_2, ix_Pd_3, ix_Pd_4, ix_Pd_m1, ix_Pd_m2, ix_Pd_m3, len_Pd, non_Pd, tp_Fy, sq_Fy, ix_Fy_0, ix_Fy_1, ix_Fy_2, ix_Fy_3, ix_Fy_m1, ix_Fy_m2, ix_Fy_m3, len_Fy, non_Fy, tp_St, sq_St, ix_St_0, ix_St_1, ix_St_2, ix_St_3, ix_St_m1, ix_St_m2, ix_St_m3, len_St, non_St, tp_Flt, sq_Flt, ix_Flt_0, ix_Flt_1, ix_Flt_2, ix_Flt_3, ix_Flt_4, ix_Flt_m1, ix_Flt_m2, ix_Flt_m3, len_Flt, non_Flt, tp_Ld, ix_Ld_w, ix_Ld_h, ix_Ld_d, ix_Ld_hs, ix_Ld_bar, ix_Ld_peo, ix_Ld_pads, tp_hs, tp_Tk, tp_Row, tp_way, sq_way, len_way, non_Row, reduceIte, if_true, if_false, ite_true, ite_false, if_false_right, if_false_left, decide_eq_true_eq, Bool.not_eq_true', Bool.not_true, Bool.not_false, decide_eq_false_iff_not, Bool.false_eq_true, Bool.true_and, Bool.and_true, Bool.false_and, Bool.and_false, Bool.or_true, Bool.or_false, Bool.false_or, Bool.true_or, reduceCtorEq, true_and, and_true, Int.reduceLT, Int.reduceLE, Int.reducePow, Int.reduceNeg, Int.reduceMul, Int.reduceAdd, Int.reduceSub, Int.reduceToNat, Int.reduceEq, na10, Nat.reducePow, Nat.reduceLT, Nat.reduceLeDiff, Nat.reduceAdd, Nat.reduceSub, true_or, or_true, and_self, decide_true, decide_false, Bool.decide_eq_true, Bool.and_self, Bool.not_not, eq_self, not_true_eq_false, not_false_eq_true, $xs,*] at $h:ident)
local macro_rules | `(tactic| simp_arith [$xs,*]) => `(tactic| repeat (first | with_reducible (refine SKn ?_) | with_reducible (refine SKr ?_) | with_reducible (refine Okc ?_) | with_reducible (refine Okn ?_) | with_reducible (refine FRn ?_) | with_reducible (refine FRr ?_) | with_reducible (refine fr_cons ?_) | with_reducible (refine fr_nil ?_) | simp +decide only [FK_rt, FK_nx, evS, evE, evP, evEs, evQs, evPs, evO, evC, evI, evMs, setAll, ownS, Ok_bind, Ok_map, Ok_some, Ok_none, Ok_ite, getS, peekS, setS, wipeS, orc, permA, keyOf, List.map_cons, List.map_nil, List.cons_append, List.nil_append, List.append_nil, List.replicate, List.length_cons, List.length_nil, List.getElem?_cons_zero, List.getElem?_cons_succ, List.set_cons_zero, List.set_cons_succ, Option.map_some, Option.bind_some, Option.map_none, Option.bind_none, asgT, asgTs, sq_t, sq_l, Ts.len, starD, List.take_succ_cons, List.take_zero, List.drop_succ_cons, List.drop_zero, List.take_nil, List.drop_nil, List.flatten_cons, List.flatten_nil, List.foldl_cons, List.foldl_nil, tp_n, tp_b, tp_i, tp_s, tp_t, tp_l, tp_d, tp_k, tp_c, tp_r0, tp_r1, ix_l, ix_t, ix_k, ix_d, ix_di, at0, at1, at2, at3, at4, at5, at6, at7, atm1, atm2, atm3, b_add, b_sub, b_mul, b_div, b_mod, b_pow, b_addT, b_addL, b_mulL, c_lt, c_le, c_gt, c_ge, c_eq, c_ne, c_eqs, c_nes, c_is, c_isnt, n_n, n_t, n_i, n_l, bl_b, int_i, f_len, f_lenT, f_min, f_max, f_min3, f_max3, f_abs, f_intB, f_int, f_tup, f_tupT, f_lst, f_lstT, f_sum, r_l0, r_l1, ints_map, c_neNil, c_eqNil, c_ne00, sz0, pt0, pt1, pt2, isi_i, isi_t, isi_n, isi_b, isi_l, isi_s, cutT, cutL, cut_to, cut_from, fold_and, fold_or, fold_ite, fold_iteI, fold_iteB, fold_flt, ite_bF, ite_bT, szle, szlt, sm62_i, tp_Bx, sq_Bx, ix_Bx_0, ix_Bx_1, ix_Bx_2, ix_Bx_3, ix_Bx_m1, ix_Bx_m2, ix_Bx_m3, len_Bx, non_Bx, tp_Rm, sq_Rm, ix_Rm_0, ix_Rm_1, ix_Rm_2, ix_Rm_3, ix_Rm_4, ix_Rm_5, ix_Rm_m1, ix_Rm_m2, ix_Rm_m3, len_Rm, non_Rm, tp_Pd, sq_Pd, ix_Pd_0, ix_Pd_1, ix_Pd_2, ix_Pd_3, ix_Pd_4, ix_Pd_m1, ix_Pd_m2, ix_Pd_m3, len_Pd, non_Pd, tp_Fy, sq_Fy, ix_Fy_0, ix_Fy_1, ix_Fy_2, ix_Fy_3, ix_Fy_m1, ix_Fy_m2, ix_Fy_m3, len_Fy, non_Fy, tp_St, sq_St, ix_St_0, ix_St_1, ix_St_2, ix_St_3, ix_St_m1, ix_St_m2, ix_St_m3, len_St, non_St, tp_Flt, sq_Flt, ix_Flt_0, ix_Flt_1, ix_Flt_2, ix_Flt_3, ix_Flt_4, ix_Flt_m1, ix_Flt_m2, ix_Flt_m3, len_Flt, non_Flt, tp_Ld, ix_Ld_w, ix_Ld_h, ix_Ld_d, ix_Ld_hs, ix_Ld_bar, ix_Ld_peo, ix_Ld_pads, tp_hs, tp_Tk, tp_Row, tp_way, sq_way, len_way, non_Row, reduceIte, if_true, if_false, ite_true, ite_false, if_false_right, if_false_left, decide_eq_true_eq, Bool.not_eq_true', Bool.not_true, Bool.not_false, decide_eq_false_iff_not, Bool.false_eq_true, Bool.true_and, Bool.and_true, Bool.false_and, Bool.and_false, Bool.or_true, Bool.or_false, Bool.false_or, Bool.true_or, reduceCtorEq, true_and, and_true, Int.reduceLT, Int.reduceLE, Int.reducePow, Int.reduceNeg, Int.reduceMul, Int.reduceAdd, Int.reduceSub, Int.reduceToNat, Int.reduceEq, na10, Nat.reducePow, Nat.reduceLT, Nat.reduceLeDiff, Nat.reduceAdd, Nat.reduceSub, true_or, or_true, and_self, decide_true, decide_false, Bool.decide_eq_true, Bool.and_self, Bool.not_not, eq_self, not_true_eq_false, not_false_eq_true, $xs,*]))
/-! ### data without lists -/
mutual
def nlD : D → Bool
  | .non => true
  | .bl _ => true
  | .int _ => true
  | .str _ => true
  | .tup xs => nlA xs
  | .lst _ => false
  | .dct _ => false
  | .ref _ => false
  | .scr _ => false
  | .kdc _ => false
def nlA : List D → Bool
  | [] => true
  | x :: r => nlD x && nlA r
end
mutual
theorem sd_pd : ∀ d : D, nlD d = true → d.sd = d.pd
  | .non, _ => rfl
  | .bl _, _ => rfl
  | .int _, _ => rfl
  | .str _, _ => rfl
  | .tup xs, h => by rw [nlD] at h; rw [D.sd, D.pd, sd_pds xs h]
  | .lst _, h => by rw [nlD] at h; cases h
  | .dct _, h => by rw [nlD] at h; cases h
  | .ref _, h => by rw [nlD] at h; cases h
  | .scr _, h => by rw [nlD] at h; cases h
  | .kdc _, h => by rw [nlD] at h; cases h
theorem sd_pds : ∀ ds : List D, nlA ds = true → sdAll ds = pdAll ds
  | [], _ => rfl
  | x :: r, h => by
    rw [nlA, Bool.and_eq_true] at h
    rw [sdAll, pdAll, sd_pd x h.1, sd_pds r h.2]
end
theorem nl_map {β : Type} {g : β → D} (h : ∀ x, nlD (g x) = true) : ∀ {l : List β}, nlA (l.map g) = true
  | [] => rfl
  | x :: r => by rw [List.map_cons, nlA, h x, nl_map h]; rfl
theorem nl_F {F : Flt} : nlD F.t = true := by
  have h1 : nlD (wayT F.way) = true := by
    unfold wayT
    rw [nlD]
    exact nl_map fun r => by cases r <;> rfl
  have h2 : nlD F.task.t = true := by cases F.task <;> rfl
  unfold Flt.t
  simp only [nlD, nlA, h1, h2]
  rfl
theorem nl_W {W : List WR} : nlD (wnT W) = true := by
  unfold wnT
  rw [nlD]
  exact nl_map fun r => rfl
theorem WROk.rp {L : Land} {w : WR} (ok : L.Ok) (h : WROk L w) : Rp w.t 200 2 := by
  have w1 := ok.w1
  have h1 := ok.h1
  have d1 := ok.d1
  obtain ⟨r, a0, ab, b1, c0, cd, dd⟩ := h
  have e : Rp (.tup [.int w.a, .int w.b, .int w.c, .int w.d]) 63 1 := by
    refine Rp.ints (xs := [w.a, w.b, w.c, w.d]) fun x hx => ?_
    unfold Sm
    simp only [List.mem_cons, List.not_mem_nil, or_false] at hx
    omega
  exact (Rp.tup (k := 1) (RpS.cons (r.rp (by omega) (by omega) (by omega)) (RpS.cons e RpS.nil))).wide (by decide) (by decide)
theorem wn_rp {L : Land} {W : List WR} (ok : L.Ok) (h : ∀ w ∈ W, WROk L w) (hl : W.length ≤ 8) : Rp (wnT W) 1700 3 := (Rp.tup (RpS.map fun w hw => WROk.rp ok (h w hw))).wide (by omega) (by decide)
theorem th_repr {L : Land} {F : Flt} {W : List WR} {d : D} (ok : L.Ok) (hF : FltOk L F) (hW : ∀ w ∈ W, WROk L w) (hl : W.length ≤ 8) (h : ThOk d) : ∃ z, semBi .repr [.tup [d, F.t, wnT W]] = some (.str z) := by
  have hr : Rp d 60000 4 ∨ d = .dct [] := by
    rcases h with ⟨its, rfl, h1, h2⟩ | ⟨_, _, h⟩
    · exact .inl ((Rp.tup (RpS.map fun w hw => (h1 w hw).2)).wide (by omega) (by decide))
    · exact h
  have r1 := Flt.rp ok hF
  have r2 := wn_rp ok hW hl
  rcases hr with hr | rfl
  · exact ⟨_, f_rp (Rp.tup (k := 4) (RpS.cons hr (RpS.cons (r1.wide (Nat.le_refl _) (by decide)) (RpS.cons (r2.wide (Nat.le_refl _) (by decide)) RpS.nil)))) (by decide) (by decide)⟩
  · obtain ⟨p1, a1, a2, a3, a4⟩ := r1
    obtain ⟨p2, b1, b2, b3, b4⟩ := r2
    have e1 : (D.tup [.dct [], F.t, wnT W]).pd = none := by
      simp [D.pd, pdAll]
    have e2 : (D.tup [.dct [], F.t, wnT W]).sd = some (.tuple [.dict [], p1, p2]) := by
      rw [D.sd, sdAll, sdAll, sdAll, sdAll, sd_pd _ nl_F, sd_pd _ nl_W, a1, b1, D.sd]
      rfl
    refine ⟨(PyData.tuple [.dict [], p1, p2]).shown, ?_⟩
    unfold semBi
    simp only [e1, e2]
    have c1 : (PyData.tuple [.dict [], p1, p2]).showable = true := by
      simp [PyData.showable, PyData.showableAll, PyData.showableKv, a2, b2]
    have c2 : (PyData.tuple [.dict [], p1, p2]).shown.length ≤ sizeLine := by
      rw [PyData.shown]
      have := tupleText_len_le (PyData.shownAll [.dict [], p1, p2])
      have h0 : (PyData.dict []).shown.length = 2 := by decide +kernel
      simp only [PyData.shownAll, List.map_cons, List.map_nil, List.sum_cons, List.sum_nil, List.length_cons, List.length_nil, h0] at this
      simp only [PyData.shownAll]
      unfold sizeLine
      omega
    have c3 : (PyData.tuple [.dict [], p1, p2]).depth ≤ 64 := by
      have h0 : (PyData.dict []).depth ≤ 1 := by decide +kernel
      simp only [PyData.depth, PyData.depthAll, PyData.depthKv]
      omega
    rw [if_pos (by rw [c1]; simp only [Bool.true_and, Bool.and_eq_true, decide_eq_true_eq]; exact ⟨c2, c3⟩)]
/-- the states of a walk -/
theorem walk_ok {L : Land} {F : Flt} {W : List WR} {s : Int} {t : Option Int} (hF : FltOk L F) : ∀ {its : List Wi} {b : Int} {pre : List St} {q : St} {wd : Option Str} {l : List St} {w : Option Str}, (∀ z ∈ pre, StOk L F z) → StOk L F q → (∀ v, wd = some v → v ∈ brWords) →
    walkGo L F W s t its b pre q wd = some (l, w) → (∀ z ∈ l, StOk L F z) ∧ (∀ v, w = some v → v ∈ ("late" : Str) :: brWords) ∧ l.length ≤ pre.length + 1 + its.length
  | [], b, pre, q, wd, l, w, h1, h2, h3, e => by
    rw [walk_nil] at e
    injection e with e
    injection e with e1 e2
    subst e1 e2
    refine ⟨fun z hz => ?_, fun v hv => ?_, by simp⟩
    · rcases List.mem_append.mp hz with hz | hz
      · exact h1 z hz
      · rw [List.mem_singleton.mp hz]; exact h2
    · split at hv
      · injection hv with hv; subst hv; exact List.mem_cons_self
      · exact List.mem_cons_of_mem _ (h3 v hv)
  | it :: r, b, pre, q, wd, l, w, h1, h2, h3, e => by
    rw [walk_cons] at e
    split at e
    · cases e
    · cases it with
      | o d => cases e
      | w p =>
        simp only at e
        split at e
        · have ob := beatF_ok (r := rowAt F s b t) (b := b) (wx := p.1) (wy := p.2) hF h2
          cases hb : beatF L F (rowAt F s b t) b q p.1 p.2 with
          | st q' =>
            rw [hb] at e ob
            obtain ⟨g1, g2, g3⟩ := walk_ok hF (fun z hz => by
              rcases List.mem_append.mp hz with hz | hz
              · exact h1 z hz
              · rw [List.mem_singleton.mp hz]; exact h2) ob (fun v hv => by cases hv) e
            exact ⟨g1, g2, by rw [List.length_append, List.length_cons, List.length_nil] at g3; rw [List.length_cons]; omega⟩
          | br v =>
            rw [hb] at e ob
            obtain ⟨g1, g2, g3⟩ := walk_ok hF h1 h2 (fun z hz => by injection hz with hz; subst hz; exact ob) e
            exact ⟨g1, g2, by rw [List.length_cons]; omega⟩
        · cases e
theorem res_rp {L : Land} {F : Flt} {W : List WR} {s b : Int} {t : Option Int} {its : List Wi} (ok : L.Ok) (hF : FltOk L F) (s0 : 0 ≤ s) (s1 : s ≤ L.day) : Rp (resT (walkGo L F W s t its s [] F.st (L.hurts F.st.x F.st.y s F.fy.c))) 3000 3 := by
  have d1 := ok.d1
  cases e : walkGo L F W s t its s [] F.st (L.hurts F.st.x F.st.y s F.fy.c) with
  | none => exact Rp.non.wide (by decide) (Nat.le_refl _)
  | some lw =>
    obtain ⟨l, w⟩ := lw
    have hs : ¬ (L.day - s < its.length) := by
      intro z
      rw [walk_long s1 z] at e
      cases e
    obtain ⟨g1, g2, g3⟩ := walk_ok hF (fun z hz => by cases hz) hF.stOk (fun v hv => hurts_word hv) e
    have r1 : Rp (.tup (l.map St.t)) 2000 2 := (Rp.tup (RpS.map fun z hz => StOk.rp ok hF (g1 z hz))).wide (by simp at g3; omega) (Nat.le_refl _)
    have r2 : Rp (wordT w) 62 2 := by
      cases w with
      | none => exact Rp.non.wide (by decide) (Nat.le_refl _)
      | some v =>
        rcases List.mem_cons.mp (g2 v rfl) with rfl | h
        · exact Rp.wide (Rp.str (k := 0) (by decide)) (by decide) (by decide)
        · exact (brWords_rp h).wide (Nat.le_refl _) (by decide)
    exact (Rp.tup (k := 2) (RpS.cons r1 (RpS.cons r2 RpS.nil))).wide (by decide) (by decide)
section
variable {P : Prg} [HasF P Gk37] [HasF P Gk07] [HasF P Gk08] [HasF P Gk09] {n i : Nat} {R S : Sto} {L : Land} {F : Flt} {s b : Int} {Q : D × Sto → Prop} {W : List WR}
theorem th_ans {d : D} (ok : L.Ok) (hF : FltOk L F) (hW : ∀ w ∈ W, WROk L w) (s0 : 0 ≤ s) (s1 : s ≤ L.day) (h : ThOk d) : ∃ A : Option Int → D, (∀ t S, callN P (3 + 5) 90 [L.dct, wnT W, F.t, .int s, d, turnT t] S = some (A t, S)) ∧
    (∀ t (S0 : Sto) i (Q : D × Sto → Prop), LdAt S0 i L → (∀ X : Sto, Q (A t, S0 ++ X)) → Ok (callN P (0 + 8) 84 [.ref i, wnT W, F.t, .int s, d, turnT t] S0) Q) ∧ ∀ t, semBi .repr [A t] = some (.str (shD (A t))) ∧ ∀ S, top S (A t) = A t := by
  rcases h with ⟨its, rfl, h1, h2⟩ | ⟨h1, h2, _⟩
  · refine ⟨fun t => resT (walkGo L F W s t its s [] F.st (L.hurts F.st.x F.st.y s F.fy.c)), fun t S => lwalked_eq ok hF hW (fun w hw => (h1 w hw).1) s0 s1, fun t S0 i Q hL q => walked_ok hL ok hF hW (fun w hw => (h1 w hw).1) s0 s1 q, fun t => ⟨f_rp (res_rp (b := s) ok hF s0 s1) (by decide) (by decide), fun S => ?_⟩⟩
    show top S (resT (walkGo L F W s t its s [] F.st (L.hurts F.st.x F.st.y s F.fy.c))) = resT (walkGo L F W s t its s [] F.st (L.hurts F.st.x F.st.y s F.fy.c))
    generalize walkGo L F W s t its s [] F.st (L.hurts F.st.x F.st.y s F.fy.c) = g
    rcases g with _ | ⟨l, w⟩ <;> rfl
  · refine ⟨fun _ => .non, fun t S => lwalked_not h1 h2, fun t S0 i Q hL q => ?_, fun t => ⟨f_rp (Rp.non (k := 0)) (by decide) (by decide), fun S => rfl⟩⟩
    rw [walked_not h1 h2, Ok_some]
    have := q []
    rw [List.append_nil] at this
    exact this
theorem law09_ok {ns : List Int} : Ok (callN P 9 92 [.scr ns] []) fun p => p.1 = .bl true := by
  refine Ok_call (f := ⟨1, 17, b92⟩) hf92 rfl ?_
  unfold b92
  simp_arith []
  refine deck_ok fun S1 k1 => ?_
  simp_arith [rangeD_map]
  refine Ok_frA (enc := D.int) (fun env S => ∃ R a2 a3 a4 a5 a6 a7 a8 a9 a10 a11 a12 a13 a14 a15 a16, Dk R S ∧ env = [.fz (.scr ns), .fz (.ref 1), a2, a3, a4, a5, a6, a7, a8, a9, a10, a11, a12, a13, a14, a15, a16]) ⟨_, _, _, _, _, _, _, _, _, _, _, _, _, _, _, _, k1, rfl⟩ ?_ ?_
  · rintro x _ env S ⟨R, a2, a3, a4, a5, a6, a7, a8, a9, a10, a11, a12, a13, a14, a15, a16, hS, rfl⟩
    simp_arith []
    refine fields_ok hS (by omega) (by omega) fun L S1 hL k1 => ?_
    have d0 := hL.ok.d0
    have d1 := hL.ok.d1
    simp_arith []
    refine blowing_ok k1 hL.ok (by omega) (by omega) fun W S2 hW wl k2 => ?_
    simp_arith [made_eq hL.ok]
    have k3 := k2.push (o := .ins 0 L.fs)
    have i2 := k2.len
    generalize hS3 : S2 ++ [.ins 0 L.fs] = S3 at k3 ⊢
    rw [i2]
    refine draw_ok k3 (by omega) (by omega) fun v S4 v0 v1 k4 => ?_
    simp_arith []
    refine flight_ok k4 hL.ok hL.p0 fun F S5 hF k5 => ?_
    simp_arith []
    refine draw_ok k5 (by omega) (by omega) fun u S6 u0 u1 k6 => ?_
    simp_arith []
    refine draw_ok k6 (by omega) (by omega) fun z S7 z0 z1 k7 => ?_
    simp_arith []
    have hm : ∃ s : Int, u * z = s ∧ 0 ≤ s ∧ s ≤ L.day := by
      have hz : z = 0 ∨ z = 1 := by omega
      rcases hz with rfl | rfl
      · exact ⟨0, by simp, by omega, by omega⟩
      · exact ⟨u, by simp, by omega, by omega⟩
    obtain ⟨s, es, s0, s1⟩ := hm
    have hmul : -(2 ^ 64) < u ∧ u < 2 ^ 64 := ⟨by omega, by omega⟩
    refine ⟨.inl hmul, ?_⟩
    rw [es]
    simp_arith [rangeD_map]
    refine Ok_frA (enc := D.int) (fun env S => ∃ R' a8 a9 a10 a11 a12 a13 a14 a15 a16, Dk R' S ∧ R'[R.length]? = some (.ins 0 L.fs) ∧ env = [.fz (.scr ns), .fz (.ref 1), .fz (.int x), .fz L.dct, .fz (wnT W), .fz (.ref (R.length + 2)), .fz F.t, .fz (.int s), a8, a9, a10, a11, a12, a13, a14, a15, a16]) ⟨_, _, _, _, _, _, _, _, _, _, k7, by simp, rfl⟩ ?_ ?_
    · rintro y _ env S ⟨R', a8, a9, a10, a11, a12, a13, a14, a15, a16, hS, hR, rfl⟩
      simp_arith [rangeD_map, sm62_i (show -1000000 ≤ s by omega) (show s ≤ 1000000 by omega), sm62_i (show -1000000 ≤ L.day + 1 by omega) (show L.day + 1 ≤ 1000000 by omega), show L.day + 1 - s ≤ 1000000 by omega, List.length_map, rangeZ_len]
      refine ⟨by unfold sizeLine; omega, ?_⟩
      refine pick_ok hS (by simp) (by simp [rangeZ_len]; omega) fun d S8 md k8 => ?_
      have hd : ∃ t : Option Int, d = turnT t := by
        rcases List.mem_cons.mp md with rfl | md
        · exact ⟨none, rfl⟩
        · obtain ⟨k, _, rfl⟩ := List.mem_map.mp md
          exact ⟨some k, rfl⟩
      obtain ⟨t, rfl⟩ := hd
      simp_arith []
      refine run_ok k8 hL.ok hF hW s0 s1 fun ws e1 e2 S9 hw hwl k9 => ?_
      simp_arith []
      refine thing_ok k9 hw hwl fun d S10 hd k10 => ?_
      obtain ⟨zz, er⟩ := th_repr hL.ok hF hW (by omega) hd
      obtain ⟨A, hl, hwk, hr⟩ := th_ans (P := P) hL.ok hF hW s0 s1 hd
      have rn : ∀ S, top S (wnT W) = wnT W := fun _ => rfl
      have hl0 := hl none
      have hw0 := hwk none
      have tn : turnT none = .non := rfl
      rw [tn] at hl0
      simp only [tn] at hw0
      simp_arith [er, hl t, (hr t).1, (hr t).2]
      refine Ok_lcA (enc := D.int) (e := fun _ : Unit => A t) (fun _ => True) (fun S => ∃ R', Dk R' S ∧ R'[R.length]? = some (.ins 0 L.fs)) (xs := rangeZ 0 2) (acc := []) (by simp [rangeZ_len, sizeLine]) ⟨_, k10, hR⟩ ?_ ?_
      · rintro k _ S ⟨R', hS, hR⟩
        simp_arith []
        refine hwk t S _ _ (hS.land hR) fun X => ?_
        exact ⟨(), rfl, R' ++ X, hS.app, by rw [List.getElem?_append_left (List.getElem?_eq_some_iff.mp hR).1]; exact hR⟩
      rintro gs S11 gl _ ⟨R2, k11, hR2⟩
      rw [List.nil_append]
      simp_arith []
      rw [lc_flt (enc := fun _ : Unit => A t) (g := fun _ : Unit => A t) (p := fun _ => false) (xs := gs) (acc := []) (by simp [sizeLine, gl, rangeZ_len]) fun z _ => by simp_arith only [(hr t).1, (hr t).2]]
      have ff : gs.filter (fun _ => false) = [] := by simp
      rw [ff]
      simp_arith [er, hl0, (hr none).1, (hr none).2]
      refine hw0 S11 _ _ (k11.land hR2) fun X => ?_
      simp_arith [(hr none).1, (hr none).2]
      have k12 := k11.app (X := X)
      have hR3 : (R2 ++ X)[R.length]? = some (.ins 0 L.fs) := by rw [List.getElem?_append_left (List.getElem?_eq_some_iff.mp hR2).1]; exact hR2
      generalize S11 ++ X = S12 at k12 ⊢
      refine hw0 S12 _ _ (k12.land hR3) fun Y => ?_
      simp_arith [(hr none).1, (hr none).2]
      exact ⟨R2 ++ X ++ Y, _, _, _, _, _, _, _, _, _, k12.app, by rw [List.getElem?_append_left (List.getElem?_eq_some_iff.mp hR3).1]; exact hR3, rfl⟩
    · rintro env S ⟨R', a8, a9, a10, a11, a12, a13, a14, a15, a16, hS, hR, rfl⟩
      simp_arith []
      exact ⟨_, _, _, _, _, _, _, _, _, _, _, _, _, _, _, _, hS, rfl⟩
  · rintro env S ⟨R, a2, a3, a4, a5, a6, a7, a8, a9, a10, a11, a12, a13, a14, a15, a16, hS, rfl⟩
    simp_arith []
end
end Wf
namespace K09
open PySem L2 Wf
local macro_rules | `(tactic| simp_arith only [$xs,*]) => `(tactic| simp +decide only [Ok_cons, Ok_nil, SK_nx, SK_rt, FK_rt, FK_nx, evS, evE, evP, evEs, evQs, evPs, evO, evC, evI, evMs, setAll, ownS, Ok_bind, Ok_map, Ok_some, Ok_none, Ok_ite, getS, peekS, setS, wipeS, orc, permA, keyOf, List.map_cons, List.map_nil, List.cons_append, List.nil_append, List.append_nil, List.replicate, List.length_cons, List.length_nil, List.getElem?_cons_zero, List.getElem?_cons_succ, List.set_cons_zero, List.set_cons_succ, Option.map_some, Option.bind_some, Option.map_none, Option.bind_none, asgT, asgTs, sq_t, sq_l, Ts.len, starD, List.take_succ_cons, List.take_zero, List.drop_succ_cons, List.drop_zero, List.take_nil, List.drop_nil, List.flatten_cons, List.flatten_nil, List.foldl_cons, List.foldl_nil, tp_n, tp_b, tp_i, tp_s, tp_t, tp_l, tp_d, tp_k, tp_c, tp_r0, tp_r1, ix_l, ix_t, ix_k, ix_d, ix_di, at0, at1, at2, at3, at4, at5, at6, at7, atm1, atm2, atm3, b_add, b_sub, b_mul, b_div, b_mod, b_pow, b_addT, b_addL, b_mulL, c_lt, c_le, c_gt, c_ge, c_eq, c_ne, c_eqs, c_nes, c_is, c_isnt, n_n, n_t, n_i, n_l, bl_b, int_i, f_len, f_lenT, f_min, f_max, f_min3, f_max3, f_abs, f_intB, f_int, f_tup, f_tupT, f_lst, f_lstT, f_sum, r_l0, r_l1, ints_map, c_neNil, c_eqNil, c_ne00, sz0, pt0, pt1, pt2, isi_i, isi_t, isi_n, isi_b, isi_l, isi_s, cutT, cutL, cut_to, cut_from, fold_and, fold_or, fold_ite, fold_iteI, fold_iteB, fold_flt, ite_bF, ite_bT, szle, szlt, sm62_i, tp_Bx, sq_Bx, ix_Bx_0, ix_Bx_1, ix_Bx_2, ix_Bx_3, ix_Bx_m1, ix_Bx_m2, ix_Bx_m3, len_Bx, non_Bx, tp_Rm, sq_Rm, ix_Rm_0, ix_Rm_1, ix_Rm_2, ix_Rm_3, ix_Rm_4, ix_Rm_5, ix_Rm_m1, ix_Rm_m2, ix_Rm_m3, len_Rm, non_Rm, tp_Pd, sq_Pd, ix_Pd_0, ix_Pd_1, ix_Pd_2, ix_Pd_3, ix_Pd_4, ix_Pd_m1, ix_Pd_m2, ix_Pd_m3, len_Pd, non_Pd, tp_Fy, sq_Fy, ix_Fy_0, ix_Fy_1, ix_Fy_2, ix_Fy_3, ix_Fy_m1, ix_Fy_m2, ix_Fy_m3, len_Fy, non_Fy, tp_St, sq_St, ix_St_0, ix_St_1, ix_St_2, ix_St_3, ix_St_m1, ix_St_m2, ix_St_m3, len_St, non_St, tp_Flt, sq_Flt, ix_Flt_0, ix_Flt_1, ix_Flt_2, ix_Flt_3, ix_Flt_4, ix_Flt_m1, ix_Flt_m2, ix_Flt_m3, len_Flt, non_Flt, tp_Ld, ix_Ld_w, ix_Ld_h, ix_Ld_d, ix_Ld_hs, ix_Ld_bar, ix_Ld_peo, ix_Ld_pads, tp_hs, tp_Tk, tp_Row, tp_way, sq_way, len_way, non_Row, reduceIte, if_true, if_false, ite_true, ite_false, if_false_right, if_false_left, decide_eq_true_eq, Bool.not_eq_true', Bool.not_true, Bool.not_false, decide_eq_false_iff_not, Bool.false_eq_true, Bool.true_and, Bool.and_true, Bool.false_and, Bool.and_false, Bool.or_true, Bool.or_false, Bool.false_or, Bool.true_or, reduceCtorEq, true_and, and_true, Int.reduceLT, Int.reduceLE, Int.reducePow, Int.reduceNeg, Int.reduceMul, Int.reduceAdd, Int.reduceSub, Int.reduceToNat, Int.reduceEq, na10, Nat.reducePow, Nat.reduceLT, Nat.reduceLeDiff, Nat.reduceAdd, Nat.reduceSub, true_or, or_true, and_self, decide_true, decide_false, Bool.decide_eq_true, Bool.and_self, Bool.not_not, eq_self, not_true_eq_false, not_false_eq_true, $xs,*])
local macro_rules | `(tactic| simp_arith only [$xs,*] at $h:ident) => `(tactic| simp +decide only [Ok_cons, Ok_nil, SK_nx, SK_rt, FK_rt, FK_nx, evS, evE, evP, evEs, evQs, evPs, evO, evC, evI, evMs, setAll, ownS, Ok_bind, Ok_map, Ok_some, Ok_none, Ok_ite, getS, peekS, setS, wipeS, orc, permA, keyOf, List.map_cons, List.map_nil, List.cons_append, List.nil_append, List.append_nil, List.replicate, List.length_cons, List.length_nil, List.getElem?_cons_zero, List.getElem?_cons_succ, List.set_cons_zero, List.set_cons_succ, Option.map_some, Option.bind_some, Option.map_none, Option.bind_none, asgT, asgTs, sq_t, sq_l, Ts.len, starD, List.take_succ_cons, List.take_zero, List.drop_succ_cons, List.drop_zero, List.take_nil, List.drop_nil, List.flatten_cons, List.flatten_nil, List.foldl_cons, List.foldl_nil, tp_n, tp_b, tp_i, tp_s, tp_t, tp_l, tp_d, tp_k, tp_c, tp_r0, tp_r1, ix_l, ix_t, ix_k, ix_d, ix_di, at0, at1, at2, at3, at4, at5, at6, at7, atm1, atm2, atm3, b_add, b_sub, b_mul, b_div, b_mod, b_pow, b_addT, b_addL, b_mulL, c_lt, c_le, c_gt, c_ge, c_eq, c_ne, c_eqs, c_nes, c_is, c_isnt, n_n, n_t, n_i, n_l, bl_b, int_i, f_len, f_lenT, f_min, f_max, f_min3, f_max3, f_abs, f_intB, f_int, f_tup, f_tupT, f_lst, f_lstT, f_sum, r_l0, r_l1, ints_map, c_neNil, c_eqNil, c_ne00, sz0, pt0, pt1, pt2, isi_i, isi_t, isi_n, isi_b, isi_l, isi_s, cutT, cutL, cut_to, cut_from, fold_and, fold_or, fold_ite, fold_iteI, fold_iteB, fold_flt, ite_bF, ite_bT, szle, szlt, sm62_i, tp_Bx, sq_Bx, ix_Bx_0, ix_Bx_1, ix_Bx_2, ix_Bx_3, ix_Bx_m1, ix_Bx_m2, ix_Bx_m3, len_Bx, non_Bx, tp_Rm, sq_Rm, ix_Rm_0, ix_Rm_1, ix_Rm_2, ix_Rm_3, ix_Rm_4, ix_Rm_5, ix_Rm_m1, ix_Rm_m2, ix_Rm_m3, len_Rm, non_Rm, tp_Pd, sq_Pd, ix_Pd_0, ix_Pd_1, ix_Pd_2, ix_Pd_3, ix_Pd_4, ix_Pd_m1, ix_Pd_m2, ix_Pd_m3, len_Pd, non_Pd, tp_Fy, sq_Fy, ix_Fy_0, ix_Fy_1, ix_Fy_2, ix_Fy_3, ix_Fy_m1, ix_Fy_m2, ix_Fy_m3, len_Fy, non_Fy, tp_St, sq_St, ix_St_0, ix_St_1, ix_St_2, ix_St_3, ix_St_m1, ix_St_m2, ix_St_m3, len_St, non_St, tp_Flt, sq_Flt, ix_Flt_0, ix_Flt_1, ix_Flt_2, ix_Flt_3, ix_Flt_4, ix_Flt_m1, ix_Flt_m2, ix_Flt_m3, len_Flt, non_Flt, tp_Ld, ix_Ld_w, ix_Ld_h, ix_Ld_d, ix_Ld_hs, ix_Ld_bar, ix_Ld_peo, ix_Ld_pads, tp_hs, tp_Tk, tp_Row, tp_way, sq_way, len_way, non_Row, reduceIte, if_true, if_false, ite_true, ite_false, if_false_right, if_false_left, decide_eq_true_eq, Bool.not_eq_true', Bool.not_true, Bool.not_false, decide_eq_false_iff_not, Bool.false_eq_true, Bool.true_and, Bool.and_true, Bool.false_and, Bool.and_false, Bool.or_true, Bool.or_false, Bool.false_or, Bool.true_or, reduceCtorEq, true_and, and_true, Int.reduceLT, Int.reduceLE, Int.reducePow, Int.reduceNeg, Int.reduceMul, Int.reduceAdd, Int.reduceSub, Int.reduceToNat, Int.reduceEq, na10, Nat.reducePow, Nat.reduceLT, Nat.reduceLeDiff, Nat.reduceAdd, Nat.reduceSub, true_or, or_true, and_self, decide_true, decide_false, Bool.decide_eq_true, Bool.and_self, Bool.not_not, eq_self, not_true_eq_false, not_false_eq_true, $xs,*] at $h:ident)
local macro_rules | `(tactic| simp_arith [$xs,*]) => `(tactic| repeat (first | with_reducible (refine SKn ?_) | with_reducible (refine SKr ?_) | with_reducible (refine Okc ?_) | with_reducible (refine Okn ?_) | with_reducible (refine FRn ?_) | with_reducible (refine FRr ?_) | with_reducible (refine fr_cons ?_) | with_reducible (refine fr_nil ?_) | simp +decide only [FK_rt, FK_nx, evS, evE, evP, evEs, evQs, evPs, evO, evC, evI, evMs, setAll, ownS, Ok_bind, Ok_map, Ok_some, Ok_none, Ok_ite, getS, peekS, setS, wipeS, orc, permA, keyOf, List.map_cons, List.map_nil, List.cons_append, List.nil_append, List.append_nil, List.replicate, List.length_cons, List.length_nil, List.getElem?_cons_zero, List.getElem?_cons_succ, List.set_cons_zero, List.set_cons_succ, Option.map_some, Option.bind_some, Option.map_none, Option.bind_none, asgT, asgTs, sq_t, sq_l, Ts.len, starD, List.take_succ_cons, List.take_zero, List.drop_succ_cons, List.drop_zero, List.take_nil, List.drop_nil, List.flatten_cons, List.flatten_nil, List.foldl_cons, List.foldl_nil, tp_n, tp_b, tp_i, tp_s, tp_t, tp_l, tp_d, tp_k, tp_c, tp_r0, tp_r1, ix_l, ix_t, ix_k, ix_d, ix_di, at0, at1, at2, at3, at4, at5, at6, at7, atm1, atm2, atm3, b_add, b_sub, b_mul, b_div, b_mod, b_pow, b_addT, b_addL, b_mulL, c_lt, c_le, c_gt, c_ge, c_eq, c_ne, c_eqs, c_nes, c_is, c_isnt, n_n, n_t, n_i, n_l, bl_b, int_i, f_len, f_lenT, f_min, f_max, f_min3, f_max3, f_abs, f_intB, f_int, f_tup, f_tupT, f_lst, f_lstT, f_sum, r_l0, r_l1, ints_map, c_neNil, c_eqNil, c_ne00, sz0, pt0, pt1, pt2, isi_i, isi_t, isi_n, isi_b, isi_l, isi_s, cutT, cutL, cut_to, cut_from, fold_and, fold_or, fold_ite, fold_iteI, fold_iteB, fold_flt, ite_bF, ite_bT, szle, szlt, sm62_i, tp_Bx, sq_Bx, ix_Bx_0, ix_Bx_1, ix_Bx_2, ix_Bx_3, ix_Bx_m1, ix_Bx_m2, ix_Bx_m3, len_Bx, non_Bx, tp_Rm, sq_Rm, ix_Rm_0, ix_Rm_1, ix_Rm_2, ix_Rm_3, ix_Rm_4, ix_Rm_5, ix_Rm_m1, ix_Rm_m2, ix_Rm_m3, len_Rm, non_Rm, tp_Pd, sq_Pd, ix_Pd_0, ix_Pd_1, ix_Pd_2, ix_Pd_3, ix_Pd_4, ix_Pd_m1, ix_Pd_m2, ix_Pd_m3, len_Pd, non_Pd, tp_Fy, sq_Fy, ix_Fy_0, ix_Fy_1, ix_Fy_2, ix_Fy_3, ix_Fy_m1, ix_Fy_m2, ix_Fy_m3, len_Fy, non_Fy, tp_St, sq_St, ix_St_0, ix_St_1, ix_St_2, ix_St_3, ix_St_m1, ix_St_m2, ix_St_m3, len_St, non_St, tp_Flt, sq_Flt, ix_Flt_0, ix_Flt_1, ix_Flt_2, ix_Flt_3, ix_Flt_4, ix_Flt_m1, ix_Flt_m2, ix_Flt_m3, len_Flt, non_Flt, tp_Ld, ix_Ld_w, ix_Ld_h, ix_Ld_d, ix_Ld_hs, ix_Ld_bar, ix_Ld_peo, ix_Ld_pads, tp_hs, tp_Tk, tp_Row, tp_way, sq_way, len_way, non_Row, reduceIte, if_true, if_false, ite_true, ite_false, if_false_right, if_false_left, decide_eq_true_eq, Bool.not_eq_true', Bool.not_true, Bool.not_false, decide_eq_false_iff_not, Bool.false_eq_true, Bool.true_and, Bool.and_true, Bool.false_and, Bool.and_false, Bool.or_true, Bool.or_false, Bool.false_or, Bool.true_or, reduceCtorEq, true_and, and_true, Int.reduceLT, Int.reduceLE, Int.reducePow, Int.reduceNeg, Int.reduceMul, Int.reduceAdd, Int.reduceSub, Int.reduceToNat, Int.reduceEq, na10, Nat.reducePow, Nat.reduceLT, Nat.reduceLeDiff, Nat.reduceAdd, Nat.reduceSub, true_or, or_true, and_self, decide_true, decide_false, Bool.decide_eq_true, Bool.and_self, Bool.not_not, eq_self, not_true_eq_false, not_false_eq_true, $xs,*]))
theorem plain (ns : List Int) (_ : ns.length ≤ 63) : ∃ S', callN prg 9 92 [.scr ns] [] = some (.bl true, S') := by
  obtain ⟨⟨d, S⟩, e, q⟩ := law09_ok (P := prg) (ns := ns)
  have q' : d = .bl true := q
  exact ⟨S, by rw [e, q']⟩
end K09
set_option Elab.async false
set_option linter.all false
set_option maxRecDepth 100000
set_option maxHeartbeats 4000000
namespace K09h
open PySem PySem.W PySem.Calls PyProof.Rows
theorem has : Wf.Has K09.prg dfs := by
  intro i x h
  have h1 := Wf.mem_lk h
  simp only [dfs, List.mem_cons, List.not_mem_nil, or_false] at h1
  rcases h1 with h1 | h1 | h1 | h1 | h1 | h1 | h1 | h1 | h1 | h1 | h1 | h1 | h1 | h1 | h1 | h1 | h1 | h1 | h1 | h1 | h1 | h1 | h1 | h1 | h1 | h1 | h1 | h1 | h1 | h1 | h1 | h1 | h1 | h1 | h1 | h1 | h1 | h1 | h1 | h1 | h1 | h1 | h1 | h1 | h1 | h1 | h1 | h1 | h1 | h1 | h1 | h1 | h1 | h1 | h1 | h1 | h1 | h1 | h1 | h1 | h1 | h1 | h1 | h1 | h1 | h1 | h1 | h1 | h1 | h1 | h1 | h1 | h1
  · cases h1; exact Wf.hf0
  · cases h1; exact Wf.hf1
  · cases h1; exact Wf.hf2
  · cases h1; exact Wf.hf3
  · cases h1; exact Wf.hf4
  · cases h1; exact Wf.hf5
  · cases h1; exact Wf.hf6
  · cases h1; exact Wf.hf49
  · cases h1; exact Wf.hf7
  · cases h1; exact Wf.hf8
  · cases h1; exact Wf.hf9
  · cases h1; exact Wf.hf50
  · cases h1; exact Wf.hf51
  · cases h1; exact Wf.hf10
  · cases h1; exact Wf.hf11
  · cases h1; exact Wf.hf52
  · cases h1; exact Wf.hf53
  · cases h1; exact Wf.hf54
  · cases h1; exact Wf.hf55
  · cases h1; exact Wf.hf56
  · cases h1; exact Wf.hf57
  · cases h1; exact Wf.hf58
  · cases h1; exact Wf.hf59
  · cases h1; exact Wf.hf28
  · cases h1; exact Wf.hf29
  · cases h1; exact Wf.hf30
  · cases h1; exact Wf.hf31
  · cases h1; exact Wf.hf60
  · cases h1; exact Wf.hf61
  · cases h1; exact Wf.hf62
  · cases h1; exact Wf.hf63
  · cases h1; exact Wf.hf64
  · cases h1; exact Wf.hf75
  · cases h1; exact Wf.hf76
  · cases h1; exact Wf.hf77
  · cases h1; exact Wf.hf78
  · cases h1; exact Wf.hf79
  · cases h1; exact Wf.hf80
  · cases h1; exact Wf.hf81
  · cases h1; exact Wf.hf82
  · cases h1; exact Wf.hf83
  · cases h1; exact Wf.hf84
  · cases h1; exact Wf.hf15
  · cases h1; exact Wf.hf16
  · cases h1; exact Wf.hf17
  · cases h1; exact Wf.hf32
  · cases h1; exact Wf.hf33
  · cases h1; exact Wf.hf34
  · cases h1; exact Wf.hf35
  · cases h1; exact Wf.hf36
  · cases h1; exact Wf.hf37
  · cases h1; exact Wf.hf65
  · cases h1; exact Wf.hf66
  · cases h1; exact Wf.hf67
  · cases h1; exact Wf.hf85
  · cases h1; exact Wf.hf86
  · cases h1; exact Wf.hf87
  · cases h1; exact Wf.hf38
  · cases h1; exact Wf.hf39
  · cases h1; exact Wf.hf68
  · cases h1; exact Wf.hf69
  · cases h1; exact Wf.hf40
  · cases h1; exact Wf.hf41
  · cases h1; exact Wf.hf42
  · cases h1; exact Wf.hf43
  · cases h1; exact Wf.hf70
  · cases h1; exact Wf.hf71
  · cases h1; exact Wf.hf88
  · cases h1; exact Wf.hf89
  · cases h1; exact Wf.hf44
  · cases h1; exact Wf.hf90
  · cases h1; exact Wf.hf91
  · cases h1; exact Wf.hf92
theorem e1 : OpenLaw.most PySem.Challenge.rw_windfleet_k09_runs_walked = some 63 := rfl
theorem e2 : 63 ≤ sizeLine := by decide
theorem e3 : (HandSHeadRun.topDef R.prog 88).params.defaults = [] := by kernel_rfl
theorem e4 : L2.Room (2 * 9) callerA := ⟨rfl, by decide, by decide⟩
theorem e5 : dfs.lookup 92 = some x92 := rfl
theorem e6 : x92.ps = [("_law_script" : PySem.Str)] := rfl
theorem e7 : x92.d.name = (HandSHeadRun.topDef R.prog 88).name := by kernel_rfl
theorem walk : PySem.W.WalkO (view R.prog [88]) loose (XL (view R.prog [88]) []) hk.says (OpenLaw.row PySem.Challenge.rw_windfleet_k09_runs_walked).toRowW (HandSHeadRun.topDef R.prog 88) [] (fun f vs => PySem.call f vs) := by
  refine Wf.walkG (i := 92) e1 e2 e3 e4 e5 has e6 e7 ?F K09.plain
  intro w mg h Y G
  obtain ⟨K, KX, c⟩ := Y
  have s := says KX G c
  exact ⟨⟨K, w, clsOf K⟩, tb, rfl, KX, s, He.glo_ok KX G ((Wf.SaysW.d (G := ⟨K, w, clsOf K⟩) c).fact 62 (f := .glo "law") rfl), fun fd F s u => bindL fd F s u⟩
end K09h
open PySem PySem.W PySem.Calls PyProof.Rows
theorem PySem.Challenge.cw_windfleet_k09_runs_walked_holds : PySem.Challenge.rw_windfleet_k09_runs_walked.Holds := by
  w_on; o_law
  refine HandSHeadRun.head_any (r := K09h.R) (q := view K09h.R.prog [88]) (H := K09h.hk) (ob := K09h.ob) (M := 12000) (loose := K09h.loose) (d := HandSHeadRun.topDef K09h.R.prog 88) (kwd := []) K09h.ob_eq
    (by kernel_rfl) (fun s => by kernel_rfl) K09h.run (by kernel_rfl) (by kernel_rfl) (by kernel_rfl) (by rfl) (by first | assumption | decide +kernel) (by decide +kernel) ⟨rfl, rfl, rfl, rfl, rfl, by decide +kernel⟩ ?hw ?hc
  case hw => w_witness2
  case hc => exact K09h.walk
