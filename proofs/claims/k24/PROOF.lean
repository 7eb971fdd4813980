import PyProof.Rows.All
import Wide.All
import OpenK.AllK
import Wide.FinOn
import HandS.ForMost
import HandS.Codes
import HandS.TupAny
import HandS.Walk
import HandS.Zip
import HandS.IsInst
import HandS.DictComp
import HandS.Wide
import KE.GoesMore
import KE.GoesEnum
import HandS.Iter
import HandS.TupMul
import HandS.DeepEq
import HandS.Deep
import HandS.Conv
import HandS.SortInts
import HandS.More
import PyProof.Rows.StrMeet
import HandS.Finally
import PyProof.DictCopy
import HandS.SetKeys
import HandS.SetFor
import PyProof.WalksS
import HandS.Style
import HandS.Words
import KE.KDictList
import PySem.Challenge.RW_flatrounds_k24_whole_pushes_of_deeds
set_option Elab.async false
set_option linter.all false
set_option maxRecDepth 100000
set_option maxHeartbeats 4000000
/-! DenA: values without addresses, a store of what changes, expressions and statements as data, and what they do. -/
namespace Den
open PySem L2

/-- a value: tuples are what they hold; lists, dicts, instances stand in the store -/
inductive PV where
  | non | bl (b : Bool) | int (i : Int) | str (x : Str) | tup (xs : List PV) | ref (n : Nat) | ty (n : String) | cls (x : Str)
  /-- a list of ints that nobody may change: the script -/
  | sls (ns : List Int)
/-- what stands in the store -/
inductive Ob where
  | lst (xs : List PV) | dic (lk : Bool) (kvs : List (Key × PV)) | ins (C : Str) (fs : List (Str × PV)) | fls (xs : List PV)
abbrev Store := List Ob
abbrev Env := List (Option PV)
abbrev Fn := List PV → Store → Option (PV × Store)
abbrev Fl := List PV → Store → Option (List PV × Store)

mutual
def PV.decEq : (a b : PV) → Decidable (a = b)
  | .non, .non => Decidable.isTrue rfl
  | .tup a, .tup b => match PV.decEqs a b with
    | Decidable.isTrue h => Decidable.isTrue (h ▸ rfl)
    | Decidable.isFalse h => Decidable.isFalse fun e => h (PV.tup.inj e)
  | .bl a, .bl b => if h : a = b then Decidable.isTrue (h ▸ rfl) else Decidable.isFalse fun e => h (PV.bl.inj e)
  | .int a, .int b => if h : a = b then Decidable.isTrue (h ▸ rfl) else Decidable.isFalse fun e => h (PV.int.inj e)
  | .str a, .str b => if h : a = b then Decidable.isTrue (h ▸ rfl) else Decidable.isFalse fun e => h (PV.str.inj e)
  | .ref a, .ref b => if h : a = b then Decidable.isTrue (h ▸ rfl) else Decidable.isFalse fun e => h (PV.ref.inj e)
  | .ty a, .ty b => if h : a = b then Decidable.isTrue (h ▸ rfl) else Decidable.isFalse fun e => h (PV.ty.inj e)
  | .cls a, .cls b => if h : a = b then Decidable.isTrue (h ▸ rfl) else Decidable.isFalse fun e => h (PV.cls.inj e)
  | .sls a, .sls b => if h : a = b then Decidable.isTrue (h ▸ rfl) else Decidable.isFalse fun e => h (PV.sls.inj e)
  | .non, .bl _ | .non, .int _ | .non, .str _ | .non, .tup _ | .non, .ref _ | .non, .ty _ | .non, .cls _ | .non, .sls _ => Decidable.isFalse nofun
  | .bl _, .non | .bl _, .int _ | .bl _, .str _ | .bl _, .tup _ | .bl _, .ref _ | .bl _, .ty _ | .bl _, .cls _ | .bl _, .sls _ => Decidable.isFalse nofun
  | .int _, .non | .int _, .bl _ | .int _, .str _ | .int _, .tup _ | .int _, .ref _ | .int _, .ty _ | .int _, .cls _ | .int _, .sls _ => Decidable.isFalse nofun
  | .str _, .non | .str _, .bl _ | .str _, .int _ | .str _, .tup _ | .str _, .ref _ | .str _, .ty _ | .str _, .cls _ | .str _, .sls _ => Decidable.isFalse nofun
  | .tup _, .non | .tup _, .bl _ | .tup _, .int _ | .tup _, .str _ | .tup _, .ref _ | .tup _, .ty _ | .tup _, .cls _ | .tup _, .sls _ => Decidable.isFalse nofun
  | .ref _, .non | .ref _, .bl _ | .ref _, .int _ | .ref _, .str _ | .ref _, .tup _ | .ref _, .ty _ | .ref _, .cls _ | .ref _, .sls _ => Decidable.isFalse nofun
  | .ty _, .non | .ty _, .bl _ | .ty _, .int _ | .ty _, .str _ | .ty _, .tup _ | .ty _, .ref _ | .ty _, .cls _ | .ty _, .sls _ => Decidable.isFalse nofun
  | .cls _, .non | .cls _, .bl _ | .cls _, .int _ | .cls _, .str _ | .cls _, .tup _ | .cls _, .ref _ | .cls _, .ty _ | .cls _, .sls _ => Decidable.isFalse nofun
  | .sls _, .non | .sls _, .bl _ | .sls _, .int _ | .sls _, .str _ | .sls _, .tup _ | .sls _, .ref _ | .sls _, .ty _ | .sls _, .cls _ => Decidable.isFalse nofun
def PV.decEqs : (a b : List PV) → Decidable (a = b)
  | [], [] => Decidable.isTrue rfl
  | [], _ :: _ => Decidable.isFalse nofun
  | _ :: _, [] => Decidable.isFalse nofun
  | x :: xs, y :: ys => match PV.decEq x y with
    | Decidable.isFalse h => Decidable.isFalse fun e => h (List.cons.inj e).1
    | Decidable.isTrue h => match PV.decEqs xs ys with
      | Decidable.isFalse k => Decidable.isFalse fun e => k (List.cons.inj e).2
      | Decidable.isTrue k => Decidable.isTrue (by rw [h, k])
end
instance : DecidableEq PV := PV.decEq

/-! ### the tree of a body -/
/-- a target: a name's slot, or a tuple of such -/
inductive Tg where | nm (i : Nat) | tp (is : List Nat)
/-- behind a comprehension: what is made of its items -/
abbrev Gn := List PV → Store → Option (PV × Store)
mutual
inductive E where
  | con (v : PV) | loc (i : Nat) | app (F : Fn) (es : Es)
  | and (a b : E) | or (a b : E) | ite (c a b : E)
  /-- o.m(..): what o has to be is asked ahead of the arguments -/
  | mth (ok : PV → Store → Bool) (F : Fn) (o : E) (es : Es)
  /-- a F b G c: the second is asked only where the first is True -/
  | chn (F G : Fn) (a b c : E)
  /-- a value made of a new list that is not kept -/
  | ofl (G : Gn) (l : Lx)
  /-- an item of a new list that is not kept -/
  | ixl (l : Lx) (i : E)
  /-- {k: v for .. in ..} -/
  | dc (t : It) (g : Tg) (own : List Nat) (ts : Es) (k v : E)
inductive Es where | nil | cons (e : E) (es : Es)
/-- a new list -/
inductive Lx where
  | dsp (es : Es)
  | app (F : Fl) (es : Es)
  | map (F : List PV → Store → Option (List PV)) (l : Lx)
  | lc (t : It) (g : Tg) (own : List Nat) (ts : Es) (e : E)
  | lc2 (t : It) (g : Tg) (own : List Nat) (ts : Es) (t1 : It) (g1 : Tg) (own1 : List Nat) (ts1 : Es) (e : E)
/-- what is walked -/
inductive It where
  | val (e : E) | rng (es : Es) | enu (e : E) | zip (a b : E) | ofl (l : Lx) | rev (e : E) | zip3 (a b c : E)
end
/-- a target of an assignment -/
inductive T1 where | nm (i : Nat) | sub (o i : E)
inductive S where
  | skip | brk | cont
  | seq (a b : S)
  | set (i : Nat) (e : E)
  | asg (t : T1) (e : E)
  | asgT (ts : List T1) (e : E)
  | ex (e : E) | ret (e : E) | ite (c : E) (a b : S)
  | whl (c : E) (b : S) | for (t : It) (g : Tg) (b : S)
  /-- a statement that the proof never comes to -/
  | dead

/-! ### what it does -/
inductive Flow where | nx | brk | cont | ret (v : PV)
def bindT : Tg → Env → PV → Option Env
  | .nm i, env, x => some (env.set i (some x))
  | .tp [i, j], env, .tup [x, y] => some ((env.set i (some x)).set j (some y))
  | .tp [i, j, k], env, .tup [x, y, z] => some (((env.set i (some x)).set j (some y)).set k (some z))
  | _, _, _ => none
def wipe (env : Env) : List Nat → Env
  | [] => env
  | v :: vs => (wipe env vs).set v none
/-- a source: its items, the lists that have to stay as they are -/
structure Src where
  xs : List PV
  gd : List (Nat × List PV)
def okG (gd : List (Nat × List PV)) (st : Store) : Bool := gd.all fun p => match st[p.1]? with
  | some (.lst ys) => decide (ys = p.2)
  | some (.fls ys) => decide (ys = p.2)
  | _ => false
@[simp] theorem okG_nil (st : Store) : okG [] st = true := rfl
def setLk (b : Bool) (st : Store) : Option Nat → Store
  | none => st
  | some n => match st[n]? with
    | some (.dic _ kvs) => st.set n (.dic b kvs)
    | _ => st
def kP : Key → PV
  | .inl i => .int i
  | .inr x => .str x
/-- what a value gives when it is walked -/
def srcOf (v : PV) (st : Store) : Option Src := match v with
  | .tup xs => some ⟨xs, []⟩
  | .ref n => match st[n]? with
    | some (.lst xs) => some ⟨xs, [(n, xs)]⟩
    | some (.fls xs) => some ⟨xs, [(n, xs)]⟩
    | some (.dic true kvs) => some ⟨kvs.map fun p => kP p.1, []⟩
    | _ => none
  | .str x => some ⟨x.cps.toList.map fun c => .str ⟨#[c]⟩, []⟩
  | _ => none
def rngI (a b : Int) : List PV := (List.range (b - a).toNat).map fun i => .int (a + (i : Nat))
def small62 (i : Int) : Bool := decide (-(2 ^ 62) ≤ i) && decide (i < 2 ^ 62)
def srcRng : List PV → Option Src
  | [.int b] => if small62 b then some ⟨rngI 0 b, []⟩ else none
  | [.int a, .int b] => if small62 a && small62 b then some ⟨rngI a b, []⟩ else none
  | [.int a, .int b, .int (-1)] => if small62 a && small62 b then some ⟨(List.range (a - b).toNat).map fun i => .int (a - (i : Nat)), []⟩ else none
  | _ => none
def seqOf (v : PV) (st : Store) : Option (List PV × List (Nat × List PV)) := match v with
  | .tup xs => some (xs, [])
  | .ref n => match st[n]? with
    | some (.lst xs) => some (xs, [(n, xs)])
    | some (.fls xs) => some (xs, [(n, xs)])
    | _ => none
  | _ => none
def enumI (k : Nat) : List PV → List PV
  | [] => []
  | x :: xs => .tup [.int k, x] :: enumI (k + 1) xs
def zipI : List PV → List PV → List PV
  | x :: xs, y :: ys => .tup [x, y] :: zipI xs ys
  | _, _ => []
def zip3I : List PV → List PV → List PV → List PV
  | x :: xs, y :: ys, z :: zs => .tup [x, y, z] :: zip3I xs ys zs
  | _, _, _ => []
/-- the new list's items: a turn each; a comprehension's own names are forgotten ahead of each turn -/
def compL (bind : PV → Option Env) (ok : Store → Bool) (test : Env → Store → Option (Bool × Store)) (item : Env → Store → Option (PV × Store)) : List PV → List PV → Store → Option (List PV × Store)
  | [], acc, st => if ok st then some (acc, st) else none
  | x :: xs, acc, st => if ok st then
      (bind x).bind fun env => (test env st).bind fun (b, s1) =>
        if b then (item env s1).bind fun (y, s2) => if acc.length < 16000000 then compL bind ok test item xs (acc ++ [y]) s2 else none
        else compL bind ok test item xs acc s1
    else none
/-- .. of two clauses -/
def compL2 (bind : PV → Option Env) (ok : Store → Bool) (test : Env → Store → Option (Bool × Store)) (inner : Env → List PV → Store → Option (List PV × Store)) : List PV → List PV → Store → Option (List PV × Store)
  | [], acc, st => if ok st then some (acc, st) else none
  | x :: xs, acc, st => if ok st then
      (bind x).bind fun env => (test env st).bind fun (b, s1) =>
        if b then (inner env acc s1).bind fun (acc', s2) => compL2 bind ok test inner xs acc' s2
        else compL2 bind ok test inner xs acc s1
    else none
def keyOf : PV → Option Key
  | .int i => some (.inl i)
  | .str x => some (.inr x)
  | _ => none
/-- d[k] = v -/
def putP (k : Key) (v : PV) (kvs : List (Key × PV)) : List (Key × PV) :=
  if (kvs.any fun p => decide (p.1 = k)) = true then kvs.map (fun p => if p.1 = k then (p.1, v) else p) else kvs ++ [(k, v)]
def getP (k : Key) (kvs : List (Key × PV)) : Option PV := (kvs.find? fun p => decide (p.1 = k)).map (·.2)
def compD (bind : PV → Option Env) (ok : Store → Bool) (test : Env → Store → Option (Bool × Store)) (key val : Env → Store → Option (PV × Store)) : List PV → List (Key × PV) → Store → Option (List (Key × PV) × Store)
  | [], acc, st => if ok st then some (acc, st) else none
  | x :: xs, acc, st => if ok st then
      (bind x).bind fun env => (test env st).bind fun (b, s1) =>
        if b then (key env s1).bind fun (k, s2) => (val env s2).bind fun (y, s3) => (keyOf k).bind fun k => if acc.length < 16000000 then compD bind ok test key val xs (putP k y acc) s3 else none
        else compD bind ok test key val xs acc s1
    else none
/-- the turns of a for -/
def forL (bind : Env → PV → Option Env) (ok : Store → Bool) (body : Env → Store → Option (Flow × Env × Store)) : List PV → Env → Store → Option (Flow × Env × Store)
  | [], env, st => if ok st then some (.nx, env, st) else none
  | x :: xs, env, st => if ok st then
      (bind env x).bind fun e1 => (body e1 st).bind fun r => match r with
        | (.nx, e2, s2) => forL bind ok body xs e2 s2
        | (.cont, e2, s2) => forL bind ok body xs e2 s2
        | (.brk, e2, s2) => some (.nx, e2, s2)
        | (.ret v, e2, s2) => some (.ret v, e2, s2)
    else none
/-- the turns of a while, at most n -/
def whlL (test : Env → Store → Option (Bool × Store)) (body : Env → Store → Option (Flow × Env × Store)) : Nat → Env → Store → Option (Flow × Env × Store)
  | 0, _, _ => none
  | n + 1, env, st => (test env st).bind fun (b, s1) => if b then
      (body env s1).bind fun r => match r with
        | (.nx, e2, s2) => whlL test body n e2 s2
        | (.cont, e2, s2) => whlL test body n e2 s2
        | (.brk, e2, s2) => some (.nx, e2, s2)
        | (.ret v, e2, s2) => some (.ret v, e2, s2)
    else some (.nx, env, s1)
/-- a test's answer -/
def toB : Option (PV × Store) → Option (Bool × Store)
  | some (.bl b, st) => some (b, st)
  | _ => none
/-- the unlocked dict under a name that is walked -/
def lkOf : It → Env → Store → Option Nat
  | .val (.loc i), env, st => match env[i]? with
    | some (some (.ref n)) => match st[n]? with
      | some (.dic false _) => some n
      | _ => none
    | _ => none
  | _, _, _ => none
def gIx (xs : List PV) (y : PV) : Option PV := match y with
  | .int i => atI xs i
  | _ => none
mutual
def dE : E → Env → Store → Option (PV × Store)
  | .con v, _, st => some (v, st)
  | .loc i, env, st => match env[i]? with
    | some (some v) => some (v, st)
    | _ => none
  | .app F es, env, st => (dEs es env st).bind fun (vs, s1) => F vs s1
  | .and a b, env, st => (toB (dE a env st)).bind fun (t, s1) => if t then dE b env s1 else some (.bl false, s1)
  | .or a b, env, st => (toB (dE a env st)).bind fun (t, s1) => if t then some (.bl true, s1) else dE b env s1
  | .ite c a b, env, st => (toB (dE c env st)).bind fun (t, s1) => if t then dE a env s1 else dE b env s1
  | .chn F G a b c, env, st => (dE a env st).bind fun (x, s1) => (dE b env s1).bind fun (y, s2) => (toB (F [x, y] s2)).bind fun (t, s3) =>
      if t then (dE c env s3).bind fun (z, s4) => G [y, z] s4 else some (.bl false, s3)
  | .mth ok F o es, env, st => (dE o env st).bind fun (x, s1) => if ok x s1 then (dEs es env s1).bind fun (xs, s2) => F (x :: xs) s2 else none
  | .ofl G l, env, st => (dL l env st).bind fun (xs, s1) => G xs s1
  | .ixl l i, env, st => (dL l env st).bind fun (xs, s1) => (dE i env s1).bind fun (y, s2) => (gIx xs y).bind fun v => some (v, s2)
  | .dc t g own ts k v, env, st => (dI t env (setLk true st (lkOf t env st))).bind fun (src, s1) =>
      (compD (bindT g (wipe env own)) (okG src.gd) (fun e s => dTs ts e s) (fun e s => dE k e s) (fun e s => dE v e s) src.xs [] s1).bind fun (kvs, s2) =>
        some (.ref (setLk false s2 (lkOf t env st)).length, setLk false s2 (lkOf t env st) ++ [.dic false kvs])
def dEs : Es → Env → Store → Option (List PV × Store)
  | .nil, _, st => some ([], st)
  | .cons e es, env, st => (dE e env st).bind fun (v, s1) => (dEs es env s1).bind fun (vs, s2) => some (v :: vs, s2)
/-- a clause's tests: none or one -/
def dTs : Es → Env → Store → Option (Bool × Store)
  | .nil, _, st => some (true, st)
  | .cons e .nil, env, st => toB (dE e env st)
  | .cons _ (.cons _ _), _, _ => none
def dL : Lx → Env → Store → Option (List PV × Store)
  | .dsp es, env, st => dEs es env st
  | .app F es, env, st => (dEs es env st).bind fun (vs, s1) => F vs s1
  | .map F l, env, st => (dL l env st).bind fun (xs, s1) => (F xs s1).bind fun ys => some (ys, s1)
  | .lc t g own ts e, env, st => (dI t env (setLk true st (lkOf t env st))).bind fun (src, s1) =>
      (compL (bindT g (wipe env own)) (okG src.gd) (fun e' s => dTs ts e' s) (fun e' s => dE e e' s) src.xs [] s1).bind fun (ys, s2) => some (ys, setLk false s2 (lkOf t env st))
  | .lc2 t g own ts t1 g1 own1 ts1 e, env, st => (dI t env (setLk true st (lkOf t env st))).bind fun (src, s1) =>
      (compL2 (bindT g (wipe env own)) (okG src.gd) (fun e' s => dTs ts e' s) (fun e' acc s => (dI t1 e' s).bind fun (src1, s2) =>
          compL (bindT g1 (wipe e' own1)) (okG src1.gd) (fun e'' s => dTs ts1 e'' s) (fun e'' s => dE e e'' s) src1.xs acc s2)
        src.xs [] s1).bind fun (ys, s2) => some (ys, setLk false s2 (lkOf t env st))
def dI : It → Env → Store → Option (Src × Store)
  | .val e, env, st => (dE e env st).bind fun (v, s1) => (srcOf v s1).bind fun src => some (src, s1)
  | .rng es, env, st => (dEs es env st).bind fun (vs, s1) => (srcRng vs).bind fun src => some (src, s1)
  | .enu e, env, st => (dE e env st).bind fun (v, s1) => (seqOf v s1).bind fun p => some (⟨enumI 0 p.1, p.2⟩, s1)
  | .zip a b, env, st => (dE a env st).bind fun (v, s1) => (dE b env s1).bind fun (w, s2) => match v, w with
      | .tup xs, .tup ys => some (⟨zipI xs ys, []⟩, s2)
      | .ref m, .ref n => (seqOf (.ref m) s2).bind fun p => (seqOf (.ref n) s2).bind fun q => some (⟨zipI p.1 q.1, p.2 ++ q.2⟩, s2)
      | .tup xs, .ref n => (seqOf (.ref n) s2).bind fun q => some (⟨zipI xs q.1, q.2⟩, s2)
      | .ref m, .tup ys => (seqOf (.ref m) s2).bind fun p => some (⟨zipI p.1 ys, p.2⟩, s2)
      | _, _ => none
  | .ofl l, env, st => (dL l env st).bind fun (xs, s1) => some (⟨xs, []⟩, s1)
  | .zip3 a b c, env, st => (dE a env st).bind fun (v, s1) => (dE b env s1).bind fun (w, s2) => (dE c env s2).bind fun (z, s3) => match v, w, z with
      | .tup xs, .tup ys, .tup zs => some (⟨zip3I xs ys zs, []⟩, s3)
      | _, _, _ => none
  | .rev e, env, st => (dE e env st).bind fun (v, s1) => (seqOf v s1).bind fun p => some (⟨p.1.reverse, p.2⟩, s1)
end
/-- the most turns of a while -/
def fuel : Nat := 1000000000
def setAt (o i v : PV) (st : Store) : Option Store := match o, i with
  | .ref n, i => match st[n]?, i with
    | some (.lst xs), .int k => match ixN xs.length k with
      | some j => some (st.set n (.lst (xs.set j v)))
      | none => none
    | some (.dic false kvs), i => match keyOf i with
      | some k => if kvs.length < 16000000 then some (st.set n (.dic false (putP k v kvs))) else none
      | none => none
    | _, _ => none
  | _, _ => none
def dT1 : T1 → PV → Env → Store → Option (Env × Store)
  | .nm i, v, env, st => some (env.set i (some v), st)
  | .sub o i, v, env, st => (dE o env st).bind fun (x, s1) => (dE i env s1).bind fun (y, s2) => (setAt x y v s2).bind fun s3 => some (env, s3)
def dT1s : List T1 → List PV → Env → Store → Option (Env × Store)
  | [], [], env, st => some (env, st)
  | t :: ts, v :: vs, env, st => (dT1 t v env st).bind fun (e1, s1) => dT1s ts vs e1 s1
  | _, _, _, _ => none
def dS : S → Env → Store → Option (Flow × Env × Store)
  | .skip, env, st => some (.nx, env, st)
  | .brk, env, st => some (.brk, env, st)
  | .cont, env, st => some (.cont, env, st)
  | .seq a b, env, st => (dS a env st).bind fun r => match r with
    | (.nx, e1, s1) => dS b e1 s1
    | r => some r
  | .set i e, env, st => (dE e env st).bind fun (v, s1) => some (.nx, env.set i (some v), s1)
  | .asg t e, env, st => (dE e env st).bind fun (v, s1) => (dT1 t v env s1).bind fun (e2, s2) => some (.nx, e2, s2)
  | .asgT ts e, env, st => (dE e env st).bind fun (v, s1) => match v with
    | .tup vs => (dT1s ts vs env s1).bind fun (e2, s2) => some (.nx, e2, s2)
    | _ => none
  | .ex e, env, st => (dE e env st).bind fun (_, s1) => some (.nx, env, s1)
  | .ret e, env, st => (dE e env st).bind fun (v, s1) => some (.ret v, env, s1)
  | .ite c a b, env, st => (toB (dE c env st)).bind fun (t, s1) => if t then dS a env s1 else dS b env s1
  | .whl c b, env, st => whlL (fun e s => toB (dE c e s)) (fun e s => dS b e s) fuel env st
  | .for t g b, env, st => (dI t env (setLk true st (lkOf t env st))).bind fun (src, s1) =>
      (forL (fun e x => bindT g e x) (okG src.gd) (fun e s => dS b e s) src.xs env s1).bind fun (f, e2, s2) => some (f, e2, setLk false s2 (lkOf t env st))
  | .dead, _, _ => none
/-- a body run: its value -/
def run (n : Nat) (b : S) : Fn := fun vs st => (dS b (vs.map some ++ List.replicate (n - vs.length) none) st).bind fun r => match r with
  | (.ret v, _, s) => some (v, s)
  | (.nx, _, s) => some (.non, s)
  | _ => none
end Den

/-! DenB: how values and the store stand in the heap; the readings; what steps keep. -/
namespace Den
open PySem PySem.Spec PyProof.Rows L2

section
variable (K : PySem.W.Frag) (mg : Str → Option Value)
/-- a list that stays as it is -/
def Stl (H : Hp) (a : Addr) (xs : List V) : Prop := (∃ o, H a = some (.frz o (.lst xs))) ∨
    ∃ (o : Obj) (its : Array Value) (n : Nat), K.lookup a = some o ∧ o.cls = .type "list" ∧ o.dict = none ∧ o.data = .seq its n ∧ its.size ≤ sizeLine ∧ Vals xs its.toList
mutual
/-- v stands for the value, lists and dicts at the addresses ι -/
def RV (ι : List Addr) (H : Hp) : PV → V → Prop
  | .non, v => v = .non
  | .bl b, v => v = .bl b
  | .int i, v => v = .int i
  | .str x, v => v = .str x
  | .tup xs, v => ∃ a vs, v = .ref a ∧ SqT K H a vs ∧ RVs ι H xs vs
  | .ref n, v => ∃ a, ι[n]? = some a ∧ v = .ref a
  | .ty n, v => v = .ty n
  | .cls x, v => ∃ C, mg x = some (.ref C) ∧ v = .ref C
  | .sls ns, v => ∃ a, v = .ref a ∧ Stl K H a (ns.map V.int)
def RVs (ι : List Addr) (H : Hp) : List PV → List V → Prop
  | [], vs => vs = []
  | x :: xs, vs => ∃ v r, vs = v :: r ∧ RV ι H x v ∧ RVs ι H xs r
end
/-- pairs of a key and a value -/
def RPs {κ : Type} (ι : List Addr) (H : Hp) : List (κ × PV) → List (κ × V) → Prop
  | [], w => w = []
  | p :: r, w => ∃ v s, w = (p.1, v) :: s ∧ RV K mg ι H p.2 v ∧ RPs ι H r s
def RO (ι : List Addr) (H : Hp) (a : Addr) : Ob → Prop
  | .lst xs => ∃ vs, H a = some (.lst vs) ∧ RVs K mg ι H xs vs
  | .dic false kvs => ∃ kw, H a = some (.dK kw) ∧ RPs K mg ι H kvs kw
  | .dic true kvs => ∃ o kw, H a = some (.frz o (.dK kw)) ∧ RPs K mg ι H kvs kw
  | .ins C fs => ∃ A dx fw, mg C = some (.ref A) ∧ H a = some (.ins A dx fw) ∧ RPs K mg ι H fs fw
  | .fls xs => ∃ o vs, H a = some (.frz o (.lst vs)) ∧ RVs K mg ι H xs vs
structure RS (ι : List Addr) (st : Store) (H : Hp) : Prop where
  len : ι.length = st.length
  nd : ι.Nodup
  ob : ∀ (n : Nat) (ob : Ob), st[n]? = some ob → ∃ a, ι[n]? = some a ∧ RO K mg ι H a ob
end
/-- what a step keeps: the addresses, the tuples, what is locked, all that the store does not speak of -/
structure Le (ι ι' : List Addr) (H H' : Hp) : Prop where
  pre : ∃ r, ι' = ι ++ r
  fresh : ∀ a ∈ ι', a ∈ ι ∨ H a = none
  tups : ∀ b xs, H b = some (.tup xs) → H' b = some (.tup xs)
  frzs : ∀ b o u, H b = some (.frz o u) → H' b = some (.frz o u)
  keep : ∀ b o, H b = some o → b ∉ ι → H' b = some o
theorem Le.refl {ι : List Addr} {H : Hp} : Le ι ι H H := ⟨⟨[], by simp⟩, fun _ h => .inl h, fun _ _ h => h, fun _ _ _ h => h, fun _ _ h _ => h⟩
theorem Le.sub {ι ι' : List Addr} {H H' : Hp} (l : Le ι ι' H H') {a : Addr} (h : a ∈ ι) : a ∈ ι' := by
  obtain ⟨r, e⟩ := l.pre
  rw [e]; exact List.mem_append_left _ h
theorem Le.get {ι ι' : List Addr} {H H' : Hp} (l : Le ι ι' H H') {n : Nat} {a : Addr} (h : ι[n]? = some a) : ι'[n]? = some a := by
  obtain ⟨r, e⟩ := l.pre
  rw [e, List.getElem?_append_left (List.getElem?_eq_some_iff.mp h).1]; exact h
theorem Le.trans {ι ι1 ι2 : List Addr} {H H1 H2 : Hp} (a : Le ι ι1 H H1) (b : Le ι1 ι2 H1 H2) : Le ι ι2 H H2 := by
  refine ⟨?_, fun x hx => ?_, fun c xs h => b.tups c xs (a.tups c xs h), fun c o u h => b.frzs c o u (a.frzs c o u h), fun c o h hn => ?_⟩
  · obtain ⟨r, e⟩ := a.pre
    obtain ⟨r', e'⟩ := b.pre
    exact ⟨r ++ r', by rw [e', e, List.append_assoc]⟩
  · rcases b.fresh x hx with h | h
    · exact a.fresh x h
    · by_cases hi : x ∈ ι
      · exact .inl hi
      · refine .inr ?_
        cases q : H x with
        | none => rfl
        | some o => have := a.keep x o q hi; rw [h] at this; cases this
  · refine b.keep c o (a.keep c o h hn) fun hm => ?_
    rcases a.fresh c hm with z | z
    · exact hn z
    · rw [h] at z; cases z
/-- what isn't there behind it, and isn't spoken of, wasn't there -/
theorem Le.absent {ι ι' : List Addr} {H H' : Hp} (l : Le ι ι' H H') {p : Addr} (hp : H' p = none) (hn : p ∉ ι') : H p = none := by
  cases hq : H p with
  | none => rfl
  | some o => exact absurd (l.keep p o hq fun z => hn (l.sub z)) (by rw [hp]; exact fun z => nomatch z)
/-- fewer addresses are spoken of -/
theorem Le.drop {ι ι' : List Addr} {H H' : Hp} (a : Le ι ι' H H') : Le ι ι H H' := ⟨⟨[], by simp⟩, fun _ h => .inl h, a.tups, a.frzs, a.keep⟩
/-- a new object that the store does not speak of -/
theorem Le.new {ι : List Addr} {H : Hp} {p : Addr} {o : HO} (h : H p = none) : Le ι ι H (upd H p o) :=
  ⟨⟨[], by simp⟩, fun _ h => .inl h, fun b xs e => by rw [upd_ne (ne_of_none e h)]; exact e, fun b u xs e => by rw [upd_ne (ne_of_none e h)]; exact e, fun b u e _ => by rw [upd_ne (ne_of_none e h)]; exact e⟩
/-- .. that it speaks of -/
theorem Le.add {ι : List Addr} {H : Hp} {p : Addr} {o : HO} (h : H p = none) : Le ι (ι ++ [p]) H (upd H p o) :=
  ⟨⟨[p], rfl⟩, fun a hm => by
    rcases List.mem_append.mp hm with z | z
    · exact .inl z
    · have : a = p := by simpa using z
      subst this; exact .inr h, (Le.new (ι := ι) h).tups, (Le.new (ι := ι) h).frzs, (Le.new (ι := ι) h).keep⟩
/-- an untracked new object is taken up -/
theorem Le.take {ι ι' : List Addr} {H H' : Hp} {p : Addr} (l : Le ι ι' H H') (h : H p = none) : Le ι (ι' ++ [p]) H H' := by
  obtain ⟨r, e⟩ := l.pre
  refine ⟨⟨r ++ [p], by rw [e, List.append_assoc]⟩, fun a hm => ?_, l.tups, l.frzs, l.keep⟩
  rcases List.mem_append.mp hm with z | z
  · exact l.fresh a z
  · have : a = p := by simpa using z
    subst this; exact .inr h
/-- what can change is changed at an address that is spoken of -/
theorem Le.upd {ι : List Addr} {H : Hp} {p : Addr} {o u : HO} (hp : p ∈ ι) (h : H p = some u) (m : Mut (some u)) : Le ι ι H (L2.upd H p o) :=
  ⟨⟨[], by simp⟩, fun _ h => .inl h, fun b xs e => by rw [upd_ne (fun z => by subst z; rw [h] at e; cases e; exact m)]; exact e,
    fun b w xs e => by rw [upd_ne (fun z => by subst z; rw [h] at e; cases e; exact m)]; exact e, fun b w e hn => by rw [upd_ne (fun z => hn (by rw [z]; exact hp))]; exact e⟩

/-- what values need -/
structure Ex (ι ι' : List Addr) (H H' : Hp) : Prop where
  pre : ∃ r, ι' = ι ++ r
  tups : ∀ b xs, H b = some (.tup xs) → H' b = some (.tup xs)
  frzs : ∀ b o xs, H b = some (.frz o (.tup xs)) → H' b = some (.frz o (.tup xs))
  frzl : ∀ b o xs, H b = some (.frz o (.lst xs)) → H' b = some (.frz o (.lst xs))
theorem Le.ex {ι ι' : List Addr} {H H' : Hp} (l : Le ι ι' H H') : Ex ι ι' H H' := ⟨l.pre, l.tups, fun b o xs => l.frzs b o _, fun b o xs => l.frzs b o _⟩
theorem Ex.get {ι ι' : List Addr} {H H' : Hp} (l : Ex ι ι' H H') {n : Nat} {a : Addr} (h : ι[n]? = some a) : ι'[n]? = some a := by
  obtain ⟨r, e⟩ := l.pre
  rw [e, List.getElem?_append_left (List.getElem?_eq_some_iff.mp h).1]; exact h
theorem Ex.trans {ι ι1 ι2 : List Addr} {H H1 H2 : Hp} (a : Ex ι ι1 H H1) (b : Ex ι1 ι2 H1 H2) : Ex ι ι2 H H2 := by
  refine ⟨?_, fun c xs h => b.tups c xs (a.tups c xs h), fun c o u h => b.frzs c o u (a.frzs c o u h), fun c o u h => b.frzl c o u (a.frzl c o u h)⟩
  obtain ⟨r, e⟩ := a.pre
  obtain ⟨r', e'⟩ := b.pre
  exact ⟨r ++ r', by rw [e', e, List.append_assoc]⟩
theorem Ex.more {ι : List Addr} {H : Hp} (r : List Addr) : Ex ι (ι ++ r) H H := ⟨⟨r, rfl⟩, fun _ _ h => h, fun _ _ _ h => h, fun _ _ _ h => h⟩
section
variable {K : PySem.W.Frag} {mg : Str → Option Value} {ι ι' : List Addr} {H H' : Hp}
theorem SqT.le (l : Ex ι ι' H H') {a : Addr} {vs : List V} (h : SqT K H a vs) : SqT K H' a vs := by
  rcases h with (h | ⟨o, h⟩) | h
  · exact .inl (.inl (l.tups _ _ h))
  · exact .inl (.inr ⟨o, l.frzs _ _ _ h⟩)
  · exact .inr h
mutual
theorem RV.le (l : Ex ι ι' H H') : ∀ {x : PV} {v : V}, RV K mg ι H x v → RV K mg ι' H' x v
  | .non, _, h => h
  | .bl _, _, h => h
  | .int _, _, h => h
  | .str _, _, h => h
  | .tup xs, v, h => by
    simp only [RV] at h ⊢
    obtain ⟨a, vs, e, q, r⟩ := h
    exact ⟨a, vs, e, SqT.le l q, RVs.le l r⟩
  | .ref n, v, h => by
    simp only [RV] at h ⊢
    obtain ⟨a, e, q⟩ := h
    exact ⟨a, l.get e, q⟩
  | .ty _, _, h => h
  | .cls _, _, h => by simp only [RV] at h ⊢; exact h
  | .sls ns, v, h => by
    simp only [RV] at h ⊢
    obtain ⟨a, e, q⟩ := h
    refine ⟨a, e, ?_⟩
    rcases q with ⟨o, q⟩ | q
    · exact .inl ⟨o, l.frzl _ _ _ q⟩
    · exact .inr q
theorem RVs.le (l : Ex ι ι' H H') : ∀ {xs : List PV} {vs : List V}, RVs K mg ι H xs vs → RVs K mg ι' H' xs vs
  | [], _, h => h
  | x :: xs, vs, h => by
    simp only [RVs] at h ⊢
    obtain ⟨v, r, e, q, t⟩ := h
    exact ⟨v, r, e, RV.le l q, RVs.le l t⟩
end
theorem RPs.le {κ : Type} (l : Ex ι ι' H H') : ∀ {xs : List (κ × PV)} {vs : List (κ × V)}, RPs K mg ι H xs vs → RPs K mg ι' H' xs vs
  | [], _, h => h
  | x :: xs, vs, h => by
    simp only [RPs] at h ⊢
    obtain ⟨v, r, e, q, t⟩ := h
    exact ⟨v, r, e, RV.le l q, RPs.le l t⟩
/-- an object that stands as it stood -/
theorem RO.le (l : Ex ι ι' H H') {a : Addr} (ha : H' a = H a) : ∀ {ob : Ob}, RO K mg ι H a ob → RO K mg ι' H' a ob
  | .lst xs, ⟨vs, e, r⟩ => ⟨vs, by rw [ha]; exact e, r.le l⟩
  | .dic false kvs, ⟨kw, e, r⟩ => ⟨kw, by rw [ha]; exact e, r.le l⟩
  | .dic true kvs, ⟨o, kw, e, r⟩ => ⟨o, kw, by rw [ha]; exact e, r.le l⟩
  | .ins C fs, ⟨A, dx, fw, c, e, r⟩ => ⟨A, dx, fw, c, by rw [ha]; exact e, r.le l⟩
  | .fls xs, ⟨o, vs, e, r⟩ => ⟨o, vs, by rw [ha]; exact e, r.le l⟩
theorem RO.some {a : Addr} : ∀ {ob : Ob}, RO K mg ι H a ob → ∃ u, H a = some u
  | .lst xs, ⟨vs, e, r⟩ => ⟨_, e⟩
  | .dic false kvs, ⟨kw, e, r⟩ => ⟨_, e⟩
  | .dic true kvs, ⟨o, kw, e, r⟩ => ⟨_, e⟩
  | .ins C fs, ⟨A, dx, fw, c, e, r⟩ => ⟨_, e⟩
  | .fls xs, ⟨o, vs, e, r⟩ => ⟨_, e⟩
theorem RS.mem {st : Store} (R : RS K mg ι st H) {a : Addr} (h : a ∈ ι) : ∃ n, ι[n]? = some a ∧ n < st.length ∧ ∃ u, H a = some u := by
  obtain ⟨n, hn⟩ := List.mem_iff_getElem?.mp h
  have hl : n < ι.length := (List.getElem?_eq_some_iff.mp hn).1
  have hs : n < st.length := by rw [← R.len]; exact hl
  obtain ⟨b, hb, r⟩ := R.ob n st[n] (List.getElem?_eq_getElem hs)
  rw [hn] at hb; cases hb
  exact ⟨n, hn, hs, r.some⟩
theorem RS.not_mem {st : Store} (R : RS K mg ι st H) {a : Addr} (h : H a = none) : a ∉ ι := fun hm => by
  obtain ⟨_, _, _, u, e⟩ := R.mem hm
  rw [h] at e; cases e
/-- a new object beside it -/
theorem RS.new {st : Store} (R : RS K mg ι st H) {p : Addr} {o : HO} (h : H p = none) : RS K mg ι st (upd H p o) := by
  refine ⟨R.len, R.nd, fun n ob e => ?_⟩
  obtain ⟨a, ha, r⟩ := R.ob n ob e
  obtain ⟨u, hu⟩ := r.some
  exact ⟨a, ha, r.le (Le.new (ι := ι) h).ex (by rw [upd_ne (ne_of_none hu h)])⟩
/-- taken up -/
theorem RS.take {st : Store} (R : RS K mg ι st H) {p : Addr} {ob : Ob} (hn : p ∉ ι) (r : RO K mg (ι ++ [p]) H p ob) : RS K mg (ι ++ [p]) (st ++ [ob]) H := by
  refine ⟨by simp [R.len], List.nodup_append.mpr ⟨R.nd, by simp, fun a ha b hb => ?_⟩, fun n o e => ?_⟩
  · have : b = p := by simpa using hb
    subst this
    exact fun z => hn (z ▸ ha)
  · by_cases hl : n < st.length
    · rw [List.getElem?_append_left hl] at e
      obtain ⟨a, ha, q⟩ := R.ob n o e
      exact ⟨a, (Ex.more (H := H) [p]).get ha, q.le (Ex.more [p]) rfl⟩
    · rw [List.getElem?_append_right (by omega)] at e
      have hz : n - st.length = 0 := by
        cases h : n - st.length with
        | zero => rfl
        | succ k => rw [h] at e; simp at e
      rw [hz] at e
      have e' : ob = o := by simpa using e
      subst e'
      refine ⟨p, ?_, r⟩
      rw [List.getElem?_append_right (by rw [R.len]; omega), R.len, hz]
      rfl
/-- what stands at n is changed -/
theorem RS.set {st : Store} (R : RS K mg ι st H) {n : Nat} {p : Addr} {o : HO} {ob : Ob} (hp : ι[n]? = some p) (l : Ex ι ι H (upd H p o)) (r : RO K mg ι (upd H p o) p ob) : RS K mg ι (st.set n ob) (upd H p o) := by
  refine ⟨by simp [R.len], R.nd, fun m u e => ?_⟩
  have hl : n < st.length := by rw [← R.len]; exact (List.getElem?_eq_some_iff.mp hp).1
  by_cases hm : m = n
  · subst hm
    rw [List.getElem?_set_self hl] at e
    cases e
    exact ⟨p, hp, r⟩
  · rw [List.getElem?_set_ne (Ne.symm hm)] at e
    obtain ⟨a, ha, q⟩ := R.ob m u e
    refine ⟨a, ha, q.le l ?_⟩
    refine upd_ne fun z => hm ?_
    subst z
    have h1 := (List.getElem?_eq_some_iff.mp ha)
    have h2 := (List.getElem?_eq_some_iff.mp hp)
    obtain ⟨h1, e1⟩ := h1
    obtain ⟨h2, e2⟩ := h2
    exact (List.getElem_inj R.nd).mp (e1.trans e2.symm)
end
end Den

/-! DenC: the readings by stores; names, operators, calls, tests. -/
namespace Den
open PySem PySem.Spec PyProof.Rows L2

section
variable (K : PySem.W.Frag) (mg : Str → Option Value)
/-- the slots -/
def RE (ι : List Addr) (H : Hp) (env : Env) (σ : L2.St) : Prop := env.length = σ.length ∧ ∀ (i : Nat) (x : PV), env[i]? = some (some x) → ∃ v, σ[i]? = some (some v) ∧ RV K mg ι H x v
/-- what is wanted of a value's end -/
def Pst (ι : List Addr) (H : Hp) (x : PV) (st : Store) (Q : VK) : Prop := ∀ ι' v H', Le ι ι' H H' → RS K mg ι' st H' → RV K mg ι' H' x v → Q v H'
def LE (f : Env → Store → Option (PV × Store)) : TE := fun σ H Q => ∃ ι env st x st', RS K mg ι st H ∧ RE K mg ι H env σ ∧ f env st = some (x, st') ∧ Pst K mg ι H x st' Q
def LT (f : Env → Store → Option (Bool × Store)) : TT := fun σ H Q => ∃ ι env st b st', RS K mg ι st H ∧ RE K mg ι H env σ ∧ f env st = some (b, st') ∧ ∀ ι' H', Le ι ι' H H' → RS K mg ι' st' H' → Q b H'
def LA (f : Env → Store → Option (List PV × Store)) : TA := fun σ H Q => ∃ ι env st xs st', RS K mg ι st H ∧ RE K mg ι H env σ ∧ f env st = some (xs, st') ∧ ∀ ι' vs H', Le ι ι' H H' → RS K mg ι' st' H' → RVs K mg ι' H' xs vs → Q vs H'
/-- a new list that the store does not speak of -/
def LL (f : Env → Store → Option (List PV × Store)) : TE := fun σ H Q => ∃ ι env st xs st', RS K mg ι st H ∧ RE K mg ι H env σ ∧ f env st = some (xs, st') ∧
  ∀ ι' D vs H', Le ι ι' H H' → RS K mg ι' st' H' → H D = none → D ∉ ι' → H' D = some (.lst vs) → RVs K mg ι' H' xs vs → Q (.ref D) H'
end
section
variable {K : PySem.W.Frag} {mg : Str → Option Value} {ι ι' : List Addr} {H H' : Hp}
theorem RE.le (l : Ex ι ι' H H') {env : Env} {σ : L2.St} (r : RE K mg ι H env σ) : RE K mg ι' H' env σ := ⟨r.1, fun i x e => by
  obtain ⟨v, h, q⟩ := r.2 i x e
  exact ⟨v, h, q.le l⟩⟩
theorem RE.set {env : Env} {σ : L2.St} (r : RE K mg ι H env σ) {i : Nat} {x : PV} {v : V} (q : RV K mg ι H x v) : RE K mg ι H (env.set i (some x)) (σ.set i (some v)) := by
  refine ⟨by simp [r.1], fun j y e => ?_⟩
  by_cases hj : j = i
  · subst hj
    have hl : j < env.length := by
      have := (List.getElem?_eq_some_iff.mp e).1
      simpa using this
    rw [List.getElem?_set_self hl] at e
    cases e
    exact ⟨v, by rw [List.getElem?_set_self (by rw [← r.1]; exact hl)], q⟩
  · rw [List.getElem?_set_ne (Ne.symm hj)] at e
    obtain ⟨w, h, z⟩ := r.2 j y e
    exact ⟨w, by rw [List.getElem?_set_ne (Ne.symm hj)]; exact h, z⟩
theorem RE.wipe {env : Env} {σ : L2.St} (r : RE K mg ι H env σ) : ∀ vs : List Nat, RE K mg ι H (Den.wipe env vs) (L2.wipe σ vs)
  | [] => r
  | v :: vs => by
    have ih := RE.wipe r vs
    unfold Den.wipe L2.wipe
    refine ⟨by simp [ih.1], fun j y e => ?_⟩
    by_cases hj : j = v
    · subst hj
      have hl : j < (Den.wipe env vs).length := by
        have := (List.getElem?_eq_some_iff.mp e).1
        simpa using this
      rw [List.getElem?_set_self hl] at e
      cases e
    · rw [List.getElem?_set_ne (Ne.symm hj)] at e
      obtain ⟨w, h, z⟩ := ih.2 j y e
      exact ⟨w, by rw [List.getElem?_set_ne (Ne.symm hj)]; exact h, z⟩
theorem RVs.length : ∀ {xs : List PV} {vs : List V}, RVs K mg ι H xs vs → xs.length = vs.length
  | [], vs, h => by simp only [RVs] at h; subst h; rfl
  | x :: xs, vs, h => by
    simp only [RVs] at h
    obtain ⟨v, r, e, _, t⟩ := h
    rw [e, List.length_cons, List.length_cons, RVs.length t]
theorem RVs.get : ∀ {xs : List PV} {vs : List V} {i : Nat} {x : PV}, RVs K mg ι H xs vs → xs[i]? = some x → ∃ v, vs[i]? = some v ∧ RV K mg ι H x v
  | [], _, _, _, _, e => by simp at e
  | y :: xs, vs, i, x, h, e => by
    simp only [RVs] at h
    obtain ⟨v, r, rfl, q, t⟩ := h
    cases i with
    | zero =>
      have : y = x := by simpa using e
      subst this
      exact ⟨v, rfl, q⟩
    | succ j => exact RVs.get (i := j) t (by simpa using e)
theorem RVs.append : ∀ {xs ys : List PV} {vs ws : List V}, RVs K mg ι H xs vs → RVs K mg ι H ys ws → RVs K mg ι H (xs ++ ys) (vs ++ ws)
  | [], _, _, _, h, q => by simp only [RVs] at h; subst h; exact q
  | x :: xs, ys, vs, ws, h, q => by
    simp only [RVs] at h
    obtain ⟨v, r, rfl, z, t⟩ := h
    show RVs K mg ι H (x :: (xs ++ ys)) (v :: (r ++ ws))
    simp only [RVs]
    exact ⟨v, r ++ ws, rfl, z, RVs.append t q⟩
theorem RVs.nil : RVs K mg ι H [] [] := by simp only [RVs]
theorem RVs.cons {x : PV} {v : V} {xs : List PV} {vs : List V} (h : RV K mg ι H x v) (t : RVs K mg ι H xs vs) : RVs K mg ι H (x :: xs) (v :: vs) := by simp only [RVs]; exact ⟨v, vs, rfl, h, t⟩
theorem RVs.one {x : PV} {vs : List V} (h : RVs K mg ι H [x] vs) : ∃ v, vs = [v] ∧ RV K mg ι H x v := by
  simp only [RVs] at h
  obtain ⟨v, r, rfl, q, rfl⟩ := h
  exact ⟨v, rfl, q⟩
theorem RVs.two {x y : PV} {vs : List V} (h : RVs K mg ι H [x, y] vs) : ∃ v w, vs = [v, w] ∧ RV K mg ι H x v ∧ RV K mg ι H y w := by
  simp only [RVs] at h
  obtain ⟨v, r, rfl, q, w, r', rfl, q', rfl⟩ := h
  exact ⟨v, w, rfl, q, q'⟩
theorem RVs.set : ∀ {xs : List PV} {vs : List V} {x : PV} {v : V} (i : Nat), RVs K mg ι H xs vs → RV K mg ι H x v → RVs K mg ι H (xs.set i x) (vs.set i v)
  | [], vs, _, _, i, h, q => by simp only [RVs] at h; subst h; simp [RVs]
  | y :: xs, vs, x, v, i, h, q => by
    simp only [RVs] at h
    obtain ⟨w, r, rfl, z, t⟩ := h
    cases i with
    | zero => exact RVs.cons q t
    | succ j => exact RVs.cons z (RVs.set j t q)
theorem RVs.take : ∀ {xs : List PV} {vs : List V} (n : Nat), RVs K mg ι H xs vs → RVs K mg ι H (xs.take n) (vs.take n)
  | [], vs, n, h => by simp only [RVs] at h; subst h; simp [RVs]
  | y :: xs, vs, 0, h => by simp [RVs]
  | y :: xs, vs, n + 1, h => by
    simp only [RVs] at h
    obtain ⟨w, r, rfl, z, t⟩ := h
    exact RVs.cons z (RVs.take n t)
theorem RVs.drop : ∀ {xs : List PV} {vs : List V} (n : Nat), RVs K mg ι H xs vs → RVs K mg ι H (xs.drop n) (vs.drop n)
  | [], vs, n, h => by simp only [RVs] at h; subst h; simp [RVs]
  | y :: xs, vs, 0, h => h
  | y :: xs, vs, n + 1, h => by
    simp only [RVs] at h
    obtain ⟨w, r, rfl, z, t⟩ := h
    exact RVs.drop n t
theorem RVs.eraseIdx : ∀ {xs : List PV} {vs : List V} (n : Nat), RVs K mg ι H xs vs → RVs K mg ι H (xs.eraseIdx n) (vs.eraseIdx n)
  | [], vs, n, h => by simp only [RVs] at h; subst h; simp [RVs]
  | y :: xs, vs, 0, h => by
    simp only [RVs] at h
    obtain ⟨w, r, rfl, z, t⟩ := h
    exact t
  | y :: xs, vs, n + 1, h => by
    simp only [RVs] at h
    obtain ⟨w, r, rfl, z, t⟩ := h
    exact RVs.cons z (RVs.eraseIdx n t)
theorem RVs.dropLast : ∀ {xs : List PV} {vs : List V}, RVs K mg ι H xs vs → RVs K mg ι H xs.dropLast vs.dropLast
  | [], vs, h => by simp only [RVs] at h; subst h; simp [RVs]
  | [y], vs, h => by
    obtain ⟨v, rfl, _⟩ := h.one
    simp [RVs]
  | y :: z :: xs, vs, h => by
    simp only [RVs] at h
    obtain ⟨w, r, rfl, q, w', r', rfl, q', t⟩ := h
    exact RVs.cons q (RVs.dropLast (xs := z :: xs) (RVs.cons q' t))
end

/-! ### judgements -/
theorem PE_imp {X : Cx} {e : Expr} {t t' : TE} (h : PE X e t) (m : ∀ σ H Q, t' σ H Q → t σ H Q) : PE X e t' := ⟨fun pins s σ H Q I q => h.run pins s σ H Q I (m σ H Q q)⟩
theorem PT_imp {X : Cx} {e : Expr} {t t' : TT} (h : PT X e t) (m : ∀ σ H Q, t' σ H Q → t σ H Q) : PT X e t' := ⟨fun pins s σ H Q I q => h.run pins s σ H Q I (m σ H Q q)⟩
theorem PA_imp {X : Cx} {e : List Expr} {t t' : TA} (h : PA X e t) (m : ∀ σ H Q, t' σ H Q → t σ H Q) : PA X e t' := ⟨fun pos pins s σ H Q I q => h.run pos pins s σ H Q I (m σ H Q q)⟩
theorem PS_imp {X : Cx} {e : Stmt} {t t' : TS} (h : PS X e t) (m : ∀ D σ H, t' D σ H → t D σ H) : PS X e t' := ⟨fun pins s σ H D I q => h.run pins s σ H D I (m D σ H q)⟩
theorem PSs_imp {X : Cx} {e : List Stmt} {t t' : TS} (h : PSs X e t) (m : ∀ D σ H, t' D σ H → t D σ H) : PSs X e t' := ⟨fun pins s σ H D I q => h.run pins s σ H D I (m D σ H q)⟩

abbrev JE (X : Cx) (e : Expr) (f : Env → Store → Option (PV × Store)) : Prop := PE X e (LE X.K X.mg f)
abbrev JT (X : Cx) (e : Expr) (f : Env → Store → Option (Bool × Store)) : Prop := PT X e (LT X.K X.mg f)
abbrev JA (X : Cx) (es : List Expr) (f : Env → Store → Option (List PV × Store)) : Prop := PA X es (LA X.K X.mg f)
abbrev JL (X : Cx) (e : Expr) (f : Env → Store → Option (List PV × Store)) : Prop := PE X e (LL X.K X.mg f)

/-- an expression that is no star -/
def unst : Expr → Bool
  | .Starred _ _ => false
  | _ => true
theorem starEach_cons {e : Expr} {es : List Expr} {env : PySem.Env} (h : unst e = true) : starEach (e :: es) env = (false, eval e env) :: starEach es env := by
  cases e <;> first | rfl | cases h
def unsts : List Expr → Bool
  | [] => true
  | e :: es => unst e && unsts es
theorem plain_back {env : PySem.Env} {pos : Pos} : ∀ {es : List Expr}, unsts es = true → (backTo pos (starEach es env)).any (·.1) = false
  | [], _ => rfl
  | e :: es, h => by
    simp only [unsts, Bool.and_eq_true] at h
    rw [starEach_cons h.1]
    show (false || (backTo pos (starEach es env)).any (·.1)) = false
    rw [plain_back h.2]; rfl
theorem few_back {env : PySem.Env} {pos : Pos} : ∀ {es : List Expr}, unsts es = true → (backTo pos (starEach es env)).all (fun x => !x.1) = true
  | [], _ => rfl
  | e :: es, h => by
    simp only [unsts, Bool.and_eq_true] at h
    rw [starEach_cons h.1]
    show (true && (backTo pos (starEach es env)).all (fun x => !x.1)) = true
    rw [few_back h.2]; rfl

section
variable {X : Cx}
/-! ### argument lists -/
theorem ja_nil : JA X [] (fun _ st => some ([], st)) := PA_imp pa_nil fun σ H Q ⟨ι, env, st, xs, st', R, E, e, q⟩ => by
  cases e
  exact q ι [] H .refl R .nil
theorem ja_cons {e : Expr} {es : List Expr} {f g} (u : unst e = true) (he : JE X e f) (hs : JA X es g) : JA X (e :: es) (fun env st => (f env st).bind fun (v, s1) => (g env s1).bind fun (vs, s2) => some (v :: vs, s2)) :=
  PA_imp (pa_cons he hs (starEach_cons u)) fun σ H Q ⟨ι, env, st, xs, st', R, E, e, q⟩ => by
    cases h1 : f env st with
    | none => simp [h1] at e
    | some p =>
      obtain ⟨v, s1⟩ := p
      cases h2 : g env s1 with
      | none => simp [h1, h2] at e
      | some p =>
        obtain ⟨vs, s2⟩ := p
        simp only [h1, h2, Option.bind_some, Option.some.injEq, Prod.mk.injEq] at e
        obtain ⟨rfl, rfl⟩ := e
        refine ⟨ι, env, st, v, s1, R, E, h1, fun ι1 u H1 l1 R1 r1 => ?_⟩
        refine ⟨ι1, env, s1, vs, s2, R1, E.le l1.ex, h2, fun ι2 us H2 l2 R2 r2 => ?_⟩
        exact q ι2 (u :: us) H2 (l1.trans l2) R2 (RVs.cons (r1.le l2.ex) r2)

/-! ### by value: two operands, one, a list -/
/-- F is what the rule r says -/
def Sem2 (K : PySem.W.Frag) (mg : Str → Option Value) (F : Fn) (r : R2) : Prop := ∀ ι st H x y v w z st' Q, RS K mg ι st H → RV K mg ι H x v → RV K mg ι H y w → F [x, y] st = some (z, st') → Pst K mg ι H z st' Q → r v w H Q
def Sem1 (K : PySem.W.Frag) (mg : Str → Option Value) (F : Fn) (r : V → Hp → VK → Prop) : Prop := ∀ ι st H x v z st' Q, RS K mg ι st H → RV K mg ι H x v → F [x] st = some (z, st') → Pst K mg ι H z st' Q → r v H Q
def SemC (K : PySem.W.Frag) (mg : Str → Option Value) (F : Fn) (r : List V → Hp → VK → Prop) : Prop := ∀ ι st H xs vs z st' Q, RS K mg ι st H → RVs K mg ι H xs vs → F xs st = some (z, st') → Pst K mg ι H z st' Q → r vs H Q

/-- f, then g, then the operation -/
theorem le2 {K : PySem.W.Frag} {mg : Str → Option Value} {F : Fn} {r : R2} {f g : Env → Store → Option (PV × Store)} (hF : Sem2 K mg F r) {σ : L2.St} {H : Hp} {Q : VK}
    (h : LE K mg (fun env st => (f env st).bind fun (x, s1) => (g env s1).bind fun (y, s2) => F [x, y] s2) σ H Q) : tOp r (LE K mg f) (LE K mg g) σ H Q := by
  obtain ⟨ι, env, st, z, st', R, E, e, q⟩ := h
  cases h1 : f env st with
  | none => simp [h1] at e
  | some p =>
    obtain ⟨x, s1⟩ := p
    cases h2 : g env s1 with
    | none => simp [h1, h2] at e
    | some p =>
      obtain ⟨y, s2⟩ := p
      simp only [h1, h2, Option.bind_some] at e
      refine ⟨ι, env, st, x, s1, R, E, h1, fun ι1 u H1 l1 R1 r1 => ?_⟩
      refine ⟨ι1, env, s1, y, s2, R1, E.le l1.ex, h2, fun ι2 v H2 l2 R2 r2 => ?_⟩
      exact hF ι2 s2 H2 x y u v z st' Q R2 (r1.le l2.ex) r2 e fun ι3 w H3 l3 R3 r3 => q ι3 w H3 ((l1.trans l2).trans l3) R3 r3
theorem le1 {K : PySem.W.Frag} {mg : Str → Option Value} {F : Fn} {r : V → Hp → VK → Prop} {f : Env → Store → Option (PV × Store)} (hF : Sem1 K mg F r) {σ : L2.St} {H : Hp} {Q : VK}
    (h : LE K mg (fun env st => (f env st).bind fun (x, s1) => F [x] s1) σ H Q) : LE K mg f σ H fun x H1 => r x H1 Q := by
  obtain ⟨ι, env, st, z, st', R, E, e, q⟩ := h
  cases h1 : f env st with
  | none => simp [h1] at e
  | some p =>
    obtain ⟨x, s1⟩ := p
    simp only [h1, Option.bind_some] at e
    refine ⟨ι, env, st, x, s1, R, E, h1, fun ι1 u H1 l1 R1 r1 => ?_⟩
    exact hF ι1 s1 H1 x u z st' Q R1 r1 e fun ι2 w H2 l2 R2 r2 => q ι2 w H2 (l1.trans l2) R2 r2
theorem leC {K : PySem.W.Frag} {mg : Str → Option Value} {F : Fn} {r : List V → Hp → VK → Prop} {f : Env → Store → Option (List PV × Store)} (hF : SemC K mg F r) {σ : L2.St} {H : Hp} {Q : VK}
    (h : LE K mg (fun env st => (f env st).bind fun (xs, s1) => F xs s1) σ H Q) : tCB r (LA K mg f) σ H Q := by
  obtain ⟨ι, env, st, z, st', R, E, e, q⟩ := h
  cases h1 : f env st with
  | none => simp [h1] at e
  | some p =>
    obtain ⟨xs, s1⟩ := p
    simp only [h1, Option.bind_some] at e
    refine ⟨ι, env, st, xs, s1, R, E, h1, fun ι1 u H1 l1 R1 r1 => ?_⟩
    exact hF ι1 s1 H1 xs u z st' Q R1 r1 e fun ι2 w H2 l2 R2 r2 => q ι2 w H2 (l1.trans l2) R2 r2

theorem je_op {op : Operator} {r : R2} {F : Fn} {a b : Expr} {f g} {pos : Pos} (ho : OpR X (binaryOp op) r) (hF : Sem2 X.K X.mg F r) (ha : JE X a f) (hb : JE X b g) :
    JE X (.BinOp a op b pos) (fun env st => (f env st).bind fun (x, s1) => (g env s1).bind fun (y, s2) => F [x, y] s2) := PE_imp (pe_op ho ha hb) fun _ _ _ h => le2 hF h
theorem je_cmp {op : CmpOp} {r : R2} {F : Fn} {a b : Expr} {f g} {pos : Pos} (ho : OpR X (compareOp op) r) (hF : Sem2 X.K X.mg F r) (ha : JE X a f) (hb : JE X b g) (hm : behindInMarks op b = false) :
    JE X (.Compare a [op] [b] pos) (fun env st => (f env st).bind fun (x, s1) => (g env s1).bind fun (y, s2) => F [x, y] s2) := PE_imp (pe_cmpR ho ha hb hm) fun _ _ _ h => le2 hF h
theorem je_un {op : UnaryOp} {r : V → Hp → VK → Prop} {F : Fn} {a : Expr} {f} {pos : Pos} (ho : UnR X (unaryOp op) r) (hF : Sem1 X.K X.mg F r) (ha : JE X a f) :
    JE X (.UnaryOp op a pos) (fun env st => (f env st).bind fun (x, s1) => F [x] s1) := PE_imp (pe_un ho ha) fun _ _ _ h => le1 hF h
/-! ### tests -/
theorem toB_some {o : Option (PV × Store)} {b : Bool} {st : Store} (h : toB o = some (b, st)) : o = some (.bl b, st) := by
  unfold toB at h
  split at h
  · cases h; rfl
  · cases h
theorem lt_toB {K : PySem.W.Frag} {mg : Str → Option Value} {f : Env → Store → Option (PV × Store)} {σ : L2.St} {H : Hp} {Q : Bool → Hp → Prop} (h : LT K mg (fun env st => toB (f env st)) σ H Q) : LE K mg f σ H fun x H1 => ∃ c, x = .bl c ∧ Q c H1 := by
  obtain ⟨ι, env, st, b, st', R, E, e, q⟩ := h
  exact ⟨ι, env, st, _, st', R, E, toB_some e, fun ι1 v H1 l1 R1 r1 => ⟨b, r1, q ι1 H1 l1 R1⟩⟩
theorem jt_val {e : Expr} {f} (h : JE X e f) (he : ∀ whole, isTrue e X.env whole = (do let v ← whole; standAt e.pos; holding [v] (truthy v))) : JT X e (fun env st => toB (f env st)) := PT_imp (pt_val h he) fun _ _ _ h => lt_toB h
theorem jt_cmp {op : CmpOp} {r : R2} {F : Fn} {a b : Expr} {f g} {pos : Pos} (ho : OpR X (compareOp op) r) (hF : Sem2 X.K X.mg F r) (ha : JE X a f) (hb : JE X b g) (hm : behindInMarks op b = false) :
    JT X (.Compare a [op] [b] pos) (fun env st => toB ((f env st).bind fun (x, s1) => (g env s1).bind fun (y, s2) => F [x, y] s2)) :=
  PT_imp (pt_cmpR ho ha hb hm) fun _ _ _ h => le2 hF (lt_toB h)
theorem jt_not {a : Expr} {f} {pos : Pos} (h : JT X a f) : JT X (.UnaryOp .Not a pos) (fun env st => (f env st).bind fun (b, s1) => some (!b, s1)) := PT_imp (pt_not h) fun σ H Q ⟨ι, env, st, b, st', R, E, e, q⟩ => by
  cases h1 : f env st with
  | none => simp [h1] at e
  | some p =>
    obtain ⟨c, s1⟩ := p
    simp only [h1, Option.bind_some, Option.some.injEq, Prod.mk.injEq] at e
    obtain ⟨rfl, rfl⟩ := e
    exact ⟨ι, env, st, c, s1, R, E, h1, fun ι1 H1 l1 R1 => q ι1 H1 l1 R1⟩
end
end Den

/-! DenD: and, or, chains, choices, displays, calls, comprehensions. -/
namespace Den
open PySem PySem.Spec PyProof.Rows L2
section
variable {X : Cx} {a b c : Expr} {rest : List Expr} {f g h : Env → Store → Option (PV × Store)} {pos : Pos}
abbrev fAnd (f g : Env → Store → Option (PV × Store)) : Env → Store → Option (PV × Store) := fun env st => (toB (f env st)).bind fun (t, s1) => if t then g env s1 else some (.bl false, s1)
abbrev fOr (f g : Env → Store → Option (PV × Store)) : Env → Store → Option (PV × Store) := fun env st => (toB (f env st)).bind fun (t, s1) => if t then some (.bl true, s1) else g env s1
abbrev fIte (c f g : Env → Store → Option (PV × Store)) : Env → Store → Option (PV × Store) := fun env st => (toB (c env st)).bind fun (t, s1) => if t then f env s1 else g env s1
theorem le_and {K : PySem.W.Frag} {mg : Str → Option Value} {σ : L2.St} {H : Hp} {Q : VK} (h : LE K mg (fAnd f g) σ H Q) : tAndV (LE K mg f) (LE K mg g) σ H Q := by
  obtain ⟨ι, env, st, z, st', R, E, e, q⟩ := h
  unfold fAnd at e
  cases h1 : toB (f env st) with
  | none => simp [h1] at e
  | some p =>
    obtain ⟨t, s1⟩ := p
    simp only [h1, Option.bind_some] at e
    refine ⟨ι, env, st, _, s1, R, E, toB_some h1, fun ι1 u H1 l1 R1 r1 => ⟨t, r1, ?_⟩⟩
    cases t with
    | true => exact ⟨ι1, env, s1, z, st', R1, E.le l1.ex, e, fun ι2 w H2 l2 R2 r2 => q ι2 w H2 (l1.trans l2) R2 r2⟩
    | false =>
      simp only [Bool.false_eq_true, if_false, Option.some.injEq, Prod.mk.injEq] at e
      obtain ⟨rfl, rfl⟩ := e
      exact q ι1 (.bl false) H1 l1 R1 rfl
theorem le_or {K : PySem.W.Frag} {mg : Str → Option Value} {σ : L2.St} {H : Hp} {Q : VK} (h : LE K mg (fOr f g) σ H Q) : tOrV (LE K mg f) (LE K mg g) σ H Q := by
  obtain ⟨ι, env, st, z, st', R, E, e, q⟩ := h
  unfold fOr at e
  cases h1 : toB (f env st) with
  | none => simp [h1] at e
  | some p =>
    obtain ⟨t, s1⟩ := p
    simp only [h1, Option.bind_some] at e
    refine ⟨ι, env, st, _, s1, R, E, toB_some h1, fun ι1 u H1 l1 R1 r1 => ⟨t, r1, ?_⟩⟩
    cases t with
    | false => exact ⟨ι1, env, s1, z, st', R1, E.le l1.ex, e, fun ι2 w H2 l2 R2 r2 => q ι2 w H2 (l1.trans l2) R2 r2⟩
    | true =>
      simp only [if_true, Option.some.injEq, Prod.mk.injEq] at e
      obtain ⟨rfl, rfl⟩ := e
      exact q ι1 (.bl true) H1 l1 R1 rfl
theorem je_and (ha : JE X a f) (hb : JE X (.BoolOp .And (b :: rest) pos) g) : JE X (.BoolOp .And (a :: b :: rest) pos) (fAnd f g) := PE_imp (pe_and ha hb) fun _ _ _ h => le_and h
theorem je_or (ha : JE X a f) (hb : JE X (.BoolOp .Or (b :: rest) pos) g) : JE X (.BoolOp .Or (a :: b :: rest) pos) (fOr f g) := PE_imp (pe_or ha hb) fun _ _ _ h => le_or h
/-- a test and what it is the answer of -/
abbrev JW (X : Cx) (e : Expr) (f : Env → Store → Option (Bool × Store)) : Prop := PW X e (LT X.K X.mg f)
theorem PW_imp {X : Cx} {e : Expr} {t t' : TT} (h : PW X e t) (m : ∀ σ H Q, t' σ H Q → t σ H Q) : PW X e t' := ⟨fun wh pins s σ H Q I q => h.run wh pins s σ H Q I (m σ H Q q)⟩
theorem lt_and {K : PySem.W.Frag} {mg : Str → Option Value} {σ : L2.St} {H : Hp} {Q : Bool → Hp → Prop} (h : LT K mg (fun env st => toB (fAnd f g env st)) σ H Q) : tAnd (LT K mg fun env st => toB (f env st)) (LT K mg fun env st => toB (g env st)) σ H Q := by
  obtain ⟨ι, env, st, z, st', R, E, e, q⟩ := h
  cases h1 : toB (f env st) with
  | none => simp only [fAnd, h1, Option.bind_none] at e; cases e
  | some p =>
    obtain ⟨t, s1⟩ := p
    simp only [fAnd, h1, Option.bind_some] at e
    refine ⟨ι, env, st, t, s1, R, E, h1, fun ι1 H1 l1 R1 => ?_⟩
    cases t with
    | true => exact ⟨ι1, env, s1, z, st', R1, E.le l1.ex, e, fun ι2 H2 l2 R2 => q ι2 H2 (l1.trans l2) R2⟩
    | false =>
      simp only [Bool.false_eq_true, if_false, toB, Option.some.injEq, Prod.mk.injEq] at e
      obtain ⟨rfl, rfl⟩ := e
      exact q ι1 H1 l1 R1
theorem lt_or {K : PySem.W.Frag} {mg : Str → Option Value} {σ : L2.St} {H : Hp} {Q : Bool → Hp → Prop} (h : LT K mg (fun env st => toB (fOr f g env st)) σ H Q) : tOr (LT K mg fun env st => toB (f env st)) (LT K mg fun env st => toB (g env st)) σ H Q := by
  obtain ⟨ι, env, st, z, st', R, E, e, q⟩ := h
  cases h1 : toB (f env st) with
  | none => simp only [fOr, h1, Option.bind_none] at e; cases e
  | some p =>
    obtain ⟨t, s1⟩ := p
    simp only [fOr, h1, Option.bind_some] at e
    refine ⟨ι, env, st, t, s1, R, E, h1, fun ι1 H1 l1 R1 => ?_⟩
    cases t with
    | false => exact ⟨ι1, env, s1, z, st', R1, E.le l1.ex, e, fun ι2 H2 l2 R2 => q ι2 H2 (l1.trans l2) R2⟩
    | true =>
      simp only [if_true, toB, Option.some.injEq, Prod.mk.injEq] at e
      obtain ⟨rfl, rfl⟩ := e
      exact q ι1 H1 l1 R1
theorem jw_and1 {t : Env → Store → Option (Bool × Store)} (ha : JT X a t) : JW X (.BoolOp .And [a] pos) t := pw_and1 ha
theorem jw_or1 {t : Env → Store → Option (Bool × Store)} (ha : JT X a t) : JW X (.BoolOp .Or [a] pos) t := pw_or1 ha
theorem jw_and (ha : JT X a fun env st => toB (f env st)) (hb : JW X (.BoolOp .And (b :: rest) pos) fun env st => toB (g env st)) : JW X (.BoolOp .And (a :: b :: rest) pos) (fun env st => toB (fAnd f g env st)) := PW_imp (pw_and ha hb) fun _ _ _ h => lt_and h
theorem jw_or (ha : JT X a fun env st => toB (f env st)) (hb : JW X (.BoolOp .Or (b :: rest) pos) fun env st => toB (g env st)) : JW X (.BoolOp .Or (a :: b :: rest) pos) (fun env st => toB (fOr f g env st)) := PW_imp (pw_or ha hb) fun _ _ _ h => lt_or h
/-- a if c else b -/
theorem je_ite (hc : JT X c fun env st => toB (h env st)) (ha : JE X a f) (hb : JE X b g) : JE X (.IfExp c a b pos) (fIte h f g) := PE_imp (pe_ifExp hc ha hb) fun σ H Q ⟨ι, env, st, z, st', R, E, e, q⟩ => by
  unfold fIte at e
  cases h1 : toB (h env st) with
  | none => simp [h1] at e
  | some p =>
    obtain ⟨t, s1⟩ := p
    simp only [h1, Option.bind_some] at e
    refine ⟨ι, env, st, t, s1, R, E, h1, fun ι1 H1 l1 R1 => ?_⟩
    cases t with
    | true => exact ⟨ι1, env, s1, z, st', R1, E.le l1.ex, e, fun ι2 w H2 l2 R2 r2 => q ι2 w H2 (l1.trans l2) R2 r2⟩
    | false => exact ⟨ι1, env, s1, z, st', R1, E.le l1.ex, e, fun ι2 w H2 l2 R2 r2 => q ι2 w H2 (l1.trans l2) R2 r2⟩
/-- .. as a test -/
theorem PT_ite {X : Cx} {c a b : Expr} {pos : Pos} {tc ta tb : TT} (hc : PT X c tc) (ha : PT X a ta) (hb : PT X b tb) : PT X (.IfExp c a b pos) (fun σ H Q => tc σ H fun k H1 => if k = true then ta σ H1 Q else tb σ H1 Q) := by
  refine ⟨fun pins s σ H Q I h => ?_⟩
  show wpAny _ _ (do if ← isTrue c X.env (eval c X.env) then isTrue a X.env (eval a X.env) else isTrue b X.env (eval b X.env)) _ _ s
  refine wpAny_bind (thn (hc.run pins s σ H _ I h) fun d s1 ⟨H1, I1, q1⟩ => ?_)
  cases d with
  | true => exact ha.run pins s1 σ H1 Q I1 q1
  | false => exact hb.run pins s1 σ H1 Q I1 q1
theorem jt_ite (hc : JT X c fun env st => toB (h env st)) (ha : JT X a fun env st => toB (f env st)) (hb : JT X b fun env st => toB (g env st)) : JT X (.IfExp c a b pos) (fun env st => toB (fIte h f g env st)) :=
  PT_imp (PT_ite hc ha hb) fun σ H Q ⟨ι, env, st, z, st', R, E, e, q⟩ => by
  cases h1 : toB (h env st) with
  | none => simp only [fIte, h1, Option.bind_none] at e; cases e
  | some p =>
    obtain ⟨t, s1⟩ := p
    simp only [fIte, h1, Option.bind_some] at e
    refine ⟨ι, env, st, t, s1, R, E, h1, fun ι1 H1 l1 R1 => ?_⟩
    cases t with
    | true => exact ⟨ι1, env, s1, z, st', R1, E.le l1.ex, e, fun ι2 H2 l2 R2 => q ι2 H2 (l1.trans l2) R2⟩
    | false => exact ⟨ι1, env, s1, z, st', R1, E.le l1.ex, e, fun ι2 H2 l2 R2 => q ι2 H2 (l1.trans l2) R2⟩
/-- a F b G c -/
abbrev fChn (F G : Fn) (f g h : Env → Store → Option (PV × Store)) : Env → Store → Option (PV × Store) := fun env st => (f env st).bind fun (x, s1) => (g env s1).bind fun (y, s2) => (toB (F [x, y] s2)).bind fun (t, s3) =>
      if t then (h env s3).bind fun (z, s4) => G [y, z] s4 else some (.bl false, s3)
theorem le_chn {K : PySem.W.Frag} {mg : Str → Option Value} {F G : Fn} {r r' : R2} (hF : Sem2 K mg F r) (hG : Sem2 K mg G r') {σ : L2.St} {H : Hp} {Q : VK} (hh : LE K mg (fChn F G f g h) σ H Q) :
    tChain r r' (LE K mg f) (LE K mg g) (LE K mg h) σ H Q := by
  obtain ⟨ι, env, st, z, st', R, E, e, q⟩ := hh
  unfold fChn at e
  cases h1 : f env st with
  | none => simp [h1] at e
  | some p =>
    obtain ⟨x, s1⟩ := p
    cases h2 : g env s1 with
    | none => simp [h1, h2] at e
    | some p =>
      obtain ⟨y, s2⟩ := p
      cases h3 : toB (F [x, y] s2) with
      | none => simp [h1, h2, h3] at e
      | some p =>
        obtain ⟨t, s3⟩ := p
        simp only [h1, h2, h3, Option.bind_some] at e
        refine ⟨ι, env, st, x, s1, R, E, h1, fun ι1 u H1 l1 R1 r1 => ?_⟩
        refine ⟨ι1, env, s1, y, s2, R1, E.le l1.ex, h2, fun ι2 v H2 l2 R2 r2 => ?_⟩
        refine hF ι2 s2 H2 x y u v _ s3 _ R2 (r1.le l2.ex) r2 (toB_some h3) fun ι3 w H3 l3 R3 r3 => ⟨t, r3, ?_⟩
        cases t with
        | false =>
          simp only [Bool.false_eq_true, if_false, Option.some.injEq, Prod.mk.injEq] at e
          obtain ⟨rfl, rfl⟩ := e
          exact q ι3 _ H3 ((l1.trans l2).trans l3) R3 rfl
        | true =>
          simp only [if_true] at e
          cases h4 : h env s3 with
          | none => simp [h4] at e
          | some p =>
            obtain ⟨y4, s4⟩ := p
            simp only [h4, Option.bind_some] at e
            refine ⟨ι3, env, s3, y4, s4, R3, E.le ((l1.trans l2).trans l3).ex, h4, fun ι4 w4 H4 l4 R4 r4 => ?_⟩
            exact hG ι4 s4 H4 y y4 v w4 z st' Q R4 ((r2.le l3.ex).le l4.ex) r4 e fun ι5 w5 H5 l5 R5 r5 => q ι5 w5 H5 ((((l1.trans l2).trans l3).trans l4).trans l5) R5 r5
theorem je_chn {op op' : CmpOp} {r r' : R2} {F G : Fn} (ho : OpR X (compareOp op) r) (ho' : OpR X (compareOp op') r') (hF : Sem2 X.K X.mg F r) (hG : Sem2 X.K X.mg G r') (ha : JE X a f) (hb : JE X b g) (hc : JE X c h) (hm : lastMarks [op, op'] [b, c] = false) :
    JE X (.Compare a [op, op'] [b, c] pos) (fChn F G f g h) := PE_imp (pe_chain ho ho' ha hb hc hm) fun _ _ _ q => le_chn hF hG q
theorem jt_chn {op op' : CmpOp} {r r' : R2} {F G : Fn} (ho : OpR X (compareOp op) r) (ho' : OpR X (compareOp op') r') (hF : Sem2 X.K X.mg F r) (hG : Sem2 X.K X.mg G r') (ha : JE X a f) (hb : JE X b g) (hc : JE X c h) (hm : lastMarks [op, op'] [b, c] = false) :
    JT X (.Compare a [op, op'] [b, c] pos) (fun env st => toB (fChn F G f g h env st)) := PT_imp (pt_chain ho ho' ha hb hc hm) fun _ _ _ q => le_chn hF hG (lt_toB q)
/-! ### names and constants -/
theorem je_con {v : PV} {u : V} {e : Expr} (h : PE X e (tC u)) (r : ∀ ι H, RV X.K X.mg ι H v u) : JE X e (fun _ st => some (v, st)) := PE_imp h fun σ H Q ⟨ι, env, st, z, st', R, E, e, q⟩ => by
  cases e
  exact q ι u H .refl R (r ι H)
theorem je_loc {i : Nat} {e : Expr} (h : PE X e (tVar i)) : JE X e (fun env st => match env[i]? with | some (some v) => some (v, st) | _ => none) := PE_imp h fun σ H Q ⟨ι, env, st, z, st', R, E, e, q⟩ => by
  simp only at e
  split at e
  · rename_i v hv
    cases e
    obtain ⟨u, hu, r⟩ := E.2 i _ hv
    exact ⟨u, hu, q ι u H .refl R r⟩
  · cases e
/-! ### displays -/
def fTup : Fn := fun xs st => some (.tup xs, st)
theorem small_line {n : Nat} (h : n ≤ 16000000) : n ≤ sizeLine := Nat.le_trans h (by rw [sizeLine_eq]; decide)
theorem je_tup {es : List Expr} {k : Nat} {f : Env → Store → Option (List PV × Store)} (h : JA X es f) (hl : ∀ env st xs s1, f env st = some (xs, s1) → xs.length ≤ 16000000) : JE X (.Tuple es k pos) (fun env st => (f env st).bind fun (xs, s1) => fTup xs s1) := PE_imp (pe_tup h) fun σ H Q ⟨ι, env, st, z, st', R, E, e, q⟩ => by
  cases h1 : f env st with
  | none => simp [h1] at e
  | some p =>
    obtain ⟨xs, s1⟩ := p
    simp only [h1, Option.bind_some, fTup] at e
    cases e
    refine ⟨ι, env, st, xs, _, R, E, h1, fun ι1 vs H1 l1 R1 r1 => ⟨small_line (by rw [← r1.length]; exact hl _ _ _ _ h1), fun p hp => ?_⟩⟩
    refine q ι1 (.ref p) _ (l1.trans (Le.new hp)) (R1.new hp) ?_
    simp only [RV]
    exact ⟨p, vs, rfl, .inl (.inl upd_same), r1.le (Le.new (ι := ι1) hp).ex⟩
/-- a new list -/
theorem jl_dsp {es : List Expr} {f : Env → Store → Option (List PV × Store)} (h : JA X es f) (hl : ∀ env st xs s1, f env st = some (xs, s1) → xs.length ≤ 16000000) : JL X (.List es pos) f := PE_imp (pe_lst h) fun σ H Q ⟨ι, env, st, xs, st', R, E, e, q⟩ => by
  refine ⟨ι, env, st, _, _, R, E, e, fun ι1 vs H1 l1 R1 r1 => ⟨small_line (by rw [← r1.length]; exact hl _ _ _ _ e), fun p hp => ?_⟩⟩
  have hn : p ∉ ι1 := R1.not_mem hp
  exact q ι1 p vs _ (l1.trans (Le.new hp)) (R1.new hp) (l1.absent hp hn) hn upd_same (r1.le (Le.new (ι := ι1) hp).ex)
/-- kept -/
def gLst : Gn := fun xs st => some (.ref st.length, st ++ [.lst xs])
/-- a value made of a new list that is not kept -/
abbrev fOfl (G : Gn) (f : Env → Store → Option (List PV × Store)) : Env → Store → Option (PV × Store) := fun env st => (f env st).bind fun (xs, s1) => G xs s1
theorem je_lst {e : Expr} {f : Env → Store → Option (List PV × Store)} (h : JL X e f) : JE X e (fOfl gLst f) := PE_imp h fun σ H Q ⟨ι, env, st, z, st', R, E, e, q⟩ => by
  unfold fOfl at e
  cases h1 : f env st with
  | none => simp [h1] at e
  | some p =>
    obtain ⟨xs, s1⟩ := p
    simp only [h1, Option.bind_some, gLst, Option.some.injEq, Prod.mk.injEq] at e
    obtain ⟨rfl, rfl⟩ := e
    refine ⟨ι, env, st, xs, s1, R, E, h1, fun ι1 D vs H1 l1 R1 h0 hn hD r1 => ?_⟩
    refine q (ι1 ++ [D]) (.ref D) H1 (l1.take h0) (R1.take hn ?_) ?_
    · exact ⟨vs, hD, r1.le (Ex.more [D])⟩
    · simp only [RV]
      exact ⟨D, by rw [List.getElem?_append_right (by rw [R1.len]; exact Nat.le_refl _), R1.len, Nat.sub_self]; rfl, rfl⟩
end
end Den

/-! DenT: for i, x in enumerate(t), t a tuple. -/
namespace Den
open PySem PySem.Spec PyProof.Rows L2
open Builtin Builtin.Str
theorem meets_enum_new1 {v : Value} {o : Obj} {H : Heap → Prop} (B : Begins v o H) :
    Meets (Builtin.«enumerate.__new__» ⟨[.type "enumerate", v], []⟩) (fun _ R s => H s.heap ∧
      R (.ok (.ret (.ref (s.heap.push o).objs.size))) { s with heap := (s.heap.push o).push { cls := .type "enumerate", data := .fields #[.none, .bool false, .ref s.heap.objs.size, rawInt 0, .none, .none] } }) :=
  .of_wp fun prog w A R s h => by
    obtain ⟨hp, g, d, tk, os⟩ := s; obtain ⟨h1, h⟩ := h
    have hsub := sub_enumerate
    have q1 : ∀ {A' : Around} {E : Value → Shared → Prop} {Q : Value → Shared → Prop}, Q (.ref hp.objs.size) ⟨hp.push o, g, d, tk, os⟩ → wpAny (model prog w) A' (pyIter v) Q E ⟨hp, g, d, tk, os⟩ :=
      fun q => B.iter prog w _ _ ⟨hp, g, d, tk, os⟩ _ h1 q
    wp_walk using q1
    refine wpAny_stack_any fun st => wpAny_pure ?_
    split
    · rename_i c _ _ _ _ _
      cases (c == Value.type "enumerate")
      · wp_walk using q1
        exact ⟨_, rfl, h⟩
      · wp_walk using q1
        exact ⟨_, rfl, h⟩
    · wp_walk using q1
      exact ⟨_, rfl, h⟩
theorem enum_begins1 {prog : Program} {w : World} {A : Around} {E : Value → Shared → Prop} {s : Shared} {v : Value} {o : Obj} {H : Heap → Prop} {Q : Value → Shared → Prop} (B : Begins v o H) (h1 : H s.heap)
    (h : ∀ h', IsEnum h' (s.heap.objs.size + 1) s.heap.objs.size 0 .none → h'.get? s.heap.objs.size = some o → h'.objs.size = s.heap.objs.size + 2 →
      (∀ b o, s.heap.get? b = some o → h'.get? b = some o) → Q (.ref (s.heap.objs.size + 1)) { s with heap := h' }) :
    wpAny (model prog w) A (call (.type "enumerate") [v]) Q E s := by
  refine callType_new F.called_enumerate (by decide) (F.typeCall_enumerate_1 _) (F.newCall_enumerate_1 _) (fun obj => F.args_object_init_2 obj _) F.entry_enumerate_new
    (meets_enum_new1 B) ⟨h1, ?_⟩
  have hz : (s.heap.push o).objs.size = s.heap.objs.size + 1 := Heap.size_push ..
  show _ ∧ _
  rw [hz]
  have he : IsEnum ((s.heap.push o).push { cls := .type "enumerate", data := .fields #[.none, .bool false, .ref s.heap.objs.size, rawInt 0, .none, .none] }) (s.heap.objs.size + 1) s.heap.objs.size 0 .none := by
    have := Heap.get?_push_size (s.heap.push o) (o := { cls := .type "enumerate", data := .fields #[.none, .bool false, .ref s.heap.objs.size, rawInt 0, .none, .none] }) rfl
    rw [hz] at this; exact this
  refine ⟨⟨_, he, rfl⟩, h _ he (Heap.get?_push_of_some _ (Heap.get?_push_size _ B.free)) (by rw [Heap.size_push, hz]) fun b o x => Heap.get?_push_of_some _ (Heap.get?_push_of_some _ x)⟩
/-- the tuple at a, each item in a new pair -/
def IteT (K : PySem.W.Frag) (a : Addr) : L2.It :=
  ⟨fun i H => ∃ (xs : List V) (x : V), SqT K H a xs ∧ xs[i]? = some x, fun i H v H' => ∃ T x, v = .ref T ∧ H T = none ∧ H' = upd H T (.tup [.int (i : Nat), x]) ∧ ∀ xs, SqT K H a xs → xs[i]? = some x, fun i H => ∃ xs : List V, SqT K H a xs ∧ xs.length ≤ i⟩
theorem turn_enumT {P : Program} {w : World} {K : PySem.W.Frag} {elts : List Expr} {kk : Nat} {tpos : Pos} (a e it : Addr) :
    Turn P w K (.Tuple elts kk tpos) (IteT K a) [e, it] e (fun i h => (∃ old, IsEnum h e it ((i : Nat) : Int) old) ∧ h.IsTupleIter it a i ∧ e ≠ it ∧ a ≠ it ∧ a ≠ e) where
  mem := by simp
  obj := fun i h st b hb => by
    obtain ⟨⟨old, he⟩, ⟨o, ho, hc, hd⟩, _⟩ := st
    have e' : b = e ∨ b = it := by simpa using hb
    rcases e' with z | z
    · rw [z]; exact ⟨_, he, fun v q => nomatch q⟩
    · rw [z]; exact ⟨o, ho, fun v q => by rw [hd] at q; cases q⟩
  keep := fun i h h' st k => let ⟨⟨old, he⟩, hi, hne⟩ := st; ⟨⟨old, k e (by simp) _ he⟩, hi.at fun o q => k it (by simp) o q, hne⟩
  item := by
    intro X hP hw hK hc i pins s σ H E I hf st hg
    subst hP hw hK
    obtain ⟨⟨old, he⟩, hit, hne, hai, hae⟩ := st
    obtain ⟨xs, x, hq, hx⟩ := hg
    obtain ⟨its, rv, p, hz⟩ := I.tuple hq
    obtain ⟨u, hu, ru⟩ := rv.get hx
    have hel : e < s.heap.objs.size := Heap.lt_size he
    have hil : it < s.heap.objs.size := by obtain ⟨_, q, _⟩ := hit; exact Heap.lt_size q
    have hlt : i < its.toArray.size := by
      have := (List.getElem?_eq_some_iff.mp hu).1
      simpa using this
    have D := Draws.tuple (prog := X.prog) (w := X.w) (A := X.A.in1) (I.ok.hd hc) it a hai its.toArray
    refine wpAny_pyNext_enum_itemD D he ⟨hit, show s.heap.IsTuple a its.toArray from p⟩ hlt hne (by simp only [List.mem_cons, List.not_mem_nil, or_false, not_or]; exact ⟨hne, fun z => hae z.symm⟩) fun y h' tk hy ho hst hT hsz hk => ?_
    have ey : u = y := by
      have e1 : its.toArray[i]? = some u := by simpa using hu
      rw [e1] at hy
      exact Option.some.inj hy
    subst ey
    refine ⟨_, rfl, wpAny_letOwnedTupleGo_enum (s := { s with heap := h', toks := tk + 1 }) ho fun h'' he' sb => ?_⟩
    have hT2 : h''.get? s.heap.objs.size = some { cls := .type "tuple", data := .seq #[.int i tk, u] } := (sb.2 _ (Nat.ne_of_gt hel)).trans hT
    have new : ObjOk X.prog X.w (upd H s.heap.objs.size (.tup [.int (i : Nat), x])) h'' s.heap.objs.size (.tup [.int (i : Nat), x]) :=
      ⟨by show 2 ≤ sizeLine; decide, [.int i tk, u], .cons ⟨_, rfl⟩ (.cons ru .nil), ⟨_, hT2, rfl, _, rfl⟩⟩
    have I1 : Inv X pins σ (upd H s.heap.objs.size (.tup [.int (i : Nat), x])) { s with heap := h'', toks := tk + 1 } :=
      I.turnedNew (ch := [e, it]) (fun b ob hb q => (sb.2 b (fun z => hb (by simp [z]))).trans (hk b ob (fun z => hb (by simp [z])) (fun z => hb (by simp [z])) q)) hf (Nat.le_refl _) new
    refine ⟨.ref s.heap.objs.size, _, I1, rfl, ⟨_, x, rfl, I.hok.fresh (Nat.le_refl _), rfl, fun ys hy => by rw [I.tuple_inj hy hq]; exact hx⟩, ⟨⟨u, ?_⟩, hst.1.at fun o q => (sb.2 it (Ne.symm hne)).trans q, hne, hai, hae⟩, fun b hb => ?_⟩
    · have e1 : ((i + 1 : Nat) : Int) = (i : Int) + 1 := by omega
      rw [e1]; exact he'
    · have hb' : b < s.heap.objs.size := by
        have e' : b = e ∨ b = it := by simpa using hb
        rcases e' with z | z
        · rw [z]; exact hel
        · rw [z]; exact hil
      rw [upd_ne (Nat.ne_of_lt hb')]
      exact (hf b hb).1
  done := by
    intro X hP hw hK hc i pins s σ H E I hf st hg
    subst hP hw hK
    obtain ⟨⟨old, he⟩, hit, hne, hai, hae⟩ := st
    obtain ⟨xs, hq, hx⟩ := hg
    obtain ⟨its, rv, p, hz⟩ := I.tuple hq
    obtain ⟨f0, f1, f2, f3, f4, f5⟩ := hf it (by simp)
    have hl := rv.length
    have hT : s.TypeIs (.ref e) "enumerate" := ⟨_, he, rfl⟩
    unfold pyNext
    refine wpAny_bind (wpAny_attempt (wpAny_callSpecial?_slot (name := Str.ofString "__next__") hT F.slot_enumerate_next
      (wpAny_call_entry F.slot_enumerate_next hT F.entry_enumerate_next ?_ (F.args_enumerate_next_1 _))))
    show wpAny _ _ (field (.ref e) 2 >>= _) _ _ _
    refine wpAny_bind (wpAny_field he rfl (x := .ref it) rfl ?_)
    refine wpAny_bind (wpAny_nextOf_tuple_end (A := X.A.in1) (I.ok.hd hc) hit (show s.heap.IsTuple a its.toArray from p) (by simp; omega) fun h' x he' hx' => ?_)
    obtain ⟨o, ho, hc⟩ := hx'
    refine wpAny_bind (wpAny_isInstance (T := "StopIteration") (b := true) ⟨o, ho, hc⟩ isSubtype_stop ?_)
    exact wpAny_pure ⟨rfl, I.turned (t' := s.toks) (fun b o hb q => he' b o hb q) f0 f1 f3 f4 f5⟩
  self := fun A i s Q E st h => let ⟨⟨_, he⟩, _⟩ := st; wpAny_pyIter_enum he h
def iEnumT (K : PySem.W.Frag) (ta : TA) : TI := fun σ H R => ta σ H fun vs H1 => ∃ a xs, vs = [.ref a] ∧ SqT K H1 a xs ∧ R (IteT K a) H1
theorem pi_enumT {X : Cx} {e : Expr} {ta : TA} {p pos tpos : Pos} {elts : List Expr} {kk : Nat} (hg : Gl X "enumerate") (hm : X.mg "enumerate" = none) (ha : PA X [e] ta) (hs : starEach [e] X.env = [(false, eval e X.env)]) :
    PI X (.Tuple elts kk tpos) (.Call (.Name "enumerate" p) [e] [] pos) (iEnumT X.K ta) := by
  refine ⟨fun pins s σ H R I h => ?_⟩
  refine Call_ (ld_blt I hg hm boot_enumerate (PyProof.Rows.callWith_type1 (thn (ha.run pos pins s σ H _ I h) fun us s1 ⟨vs, H1, I1, r1, q1⟩ => ?_) hs rfl))
  obtain ⟨a, xs, ex, hq, q⟩ := q1
  subst ex
  cases r1 with
  | cons r rr =>
    cases rr
    cases r
    obtain ⟨its, rv, p', hz⟩ := I1.tuple hq
    have hal : a < s1.heap.objs.size := by obtain ⟨o, e, _⟩ := p'; exact Heap.lt_size e
    refine enum_begins1 (begins_tuple a its.toArray) (show s1.heap.IsTuple a its.toArray from p') fun h' he hit hsz hk => wpAny_pyIter_enum he ?_
    have I2 : Inv X pins σ H1 { s1 with heap := h' } := I1.kept (t' := s1.toks) hk
    refine ⟨s1.heap.objs.size + 1, [s1.heap.objs.size + 1, s1.heap.objs.size], _, _, H1, rfl, I2, turn_enumT a (s1.heap.objs.size + 1) s1.heap.objs.size, ⟨⟨.none, he⟩, ⟨_, hit, rfl, rfl⟩, Nat.succ_ne_self _, Nat.ne_of_lt hal, Nat.ne_of_lt (Nat.lt_succ_of_lt hal)⟩, fun b hb => ?_, q⟩
    have e' : b = s1.heap.objs.size + 1 ∨ b = s1.heap.objs.size := by simpa using hb
    have hle : s1.heap.objs.size ≤ b := by
      rcases e' with z | z
      · rw [z]; exact Nat.le_add_right _ _
      · rw [z]; exact Nat.le_refl _
    exact I1.fpOk hle (I1.hok.fresh hle)
end Den

/-! DenE: what is walked. -/
namespace Den
open PySem PySem.Spec PyProof.Rows L2
/-- what a walk needs to stay: ps, the objects of its own -/
structure Lw (ps : List Addr) (ι ι' : List Addr) (H H' : Hp) : Prop where
  ex : Ex ι ι' H H'
  frzs : ∀ b o u, H b = some (.frz o u) → H' b = some (.frz o u)
  keep : ∀ b o, H b = some o → b ∈ ps → H' b = some o
theorem Lw.get {ps ι ι' : List Addr} {H H' : Hp} (l : Lw ps ι ι' H H') {n : Nat} {a : Addr} (h : ι[n]? = some a) : ι'[n]? = some a := l.ex.get h
theorem Le.lw {ι ι' : List Addr} {H H' : Hp} (l : Le ι ι' H H') {ps : List Addr} (hp : ∀ p ∈ ps, p ∉ ι) : Lw ps ι ι' H H' := ⟨l.ex, l.frzs, fun b o h hm => l.keep b o h (hp b hm)⟩
/-- the walk over src, from the state behind its making -/
structure Wk (K : PySem.W.Frag) (mg : Str → Option Value) (src : Src) (ps : List Addr) (ι0 : List Addr) (H0 : Hp) (J : L2.It) : Prop where
  goes : ∀ i ι st H, i < src.xs.length → Lw ps ι0 ι H0 H → RS K mg ι st H → okG src.gd st = true → J.go i H
  stops : ∀ ι st H, Lw ps ι0 ι H0 H → RS K mg ι st H → okG src.gd st = true → J.stop src.xs.length H
  yields : ∀ i ι st H x H', i < src.xs.length → Lw ps ι0 ι H0 H → RS K mg ι st H → okG src.gd st = true → J.yld i H x H' → Le ι ι H H' ∧ RS K mg ι st H' ∧ ∃ p, src.xs[i]? = some p ∧ RV K mg ι H' p x
def LI (K : PySem.W.Frag) (mg : Str → Option Value) (f : Env → Store → Option (Src × Store)) : TI := fun σ H R => ∃ ι env st src st', RS K mg ι st H ∧ RE K mg ι H env σ ∧ f env st = some (src, st') ∧
  ∀ ι' J ps H', Le ι ι' H H' → RS K mg ι' st' H' → (∀ p ∈ ps, H p = none ∧ p ∉ ι' ∧ ∃ o, H' p = some o) → Wk K mg src ps ι' H' J → R J H'
abbrev JI (X : Cx) (tg e : Expr) (f : Env → Store → Option (Src × Store)) : Prop := PI X tg e (LI X.K X.mg f)
theorem PI_imp {X : Cx} {tg e : Expr} {t t' : TI} (h : PI X tg e t) (m : ∀ σ H R, t' σ H R → t σ H R) : PI X tg e t' := ⟨fun pins s σ H R I q => h.run pins s σ H R I (m σ H R q)⟩
theorem PI_or {X : Cx} {tg e : Expr} {t t' : TI} (h : PI X tg e t) (h' : PI X tg e t') : PI X tg e (fun σ H R => t σ H R ∨ t' σ H R) := ⟨fun pins s σ H R I q => q.elim (h.run pins s σ H R I) (h'.run pins s σ H R I)⟩
section
variable {K : PySem.W.Frag} {mg : Str → Option Value} {ι : List Addr} {H : Hp} {st : Store}
/-- two readings of one list -/
theorem okG_at {gd : List (Nat × List PV)} (h : okG gd st = true) {n : Nat} {xs : List PV} (hm : (n, xs) ∈ gd) : st[n]? = some (.lst xs) ∨ st[n]? = some (.fls xs) := by
  have q := List.all_eq_true.mp h (n, xs) hm
  simp only at q
  split at q
  · rename_i ys e
    have : ys = xs := by simpa using q
    subst this
    exact .inl e
  · rename_i ys e
    have : ys = xs := by simpa using q
    subst this
    exact .inr e
  · cases q
theorem RS.lst (R : RS K mg ι st H) {n : Nat} {xs : List PV} (h : st[n]? = some (.lst xs) ∨ st[n]? = some (.fls xs)) : ∃ a vs, ι[n]? = some a ∧ SqL K H a vs ∧ RVs K mg ι H xs vs := by
  rcases h with h | h
  · obtain ⟨a, ha, vs, e, r⟩ := R.ob n _ h
    exact ⟨a, vs, ha, .inl (.inl e), r⟩
  · obtain ⟨a, ha, o, vs, e, r⟩ := R.ob n _ h
    exact ⟨a, vs, ha, .inl (.inr ⟨o, e⟩), r⟩
/-- a list of the store -/
theorem wk_list {n : Nat} {a : Addr} {xs : List PV} {ι0 : List Addr} {H0 : Hp} (ha : ι0[n]? = some a) : Wk K mg ⟨xs, [(n, xs)]⟩ [] ι0 H0 (Itl K a) where
  goes := fun i ι st H hi l R g => by
    obtain ⟨b, vs, hb, q, r⟩ := R.lst (okG_at g (List.mem_singleton_self _))
    have e : b = a := Option.some.inj (hb.symm.trans (l.get ha))
    subst e
    obtain ⟨v, hv, _⟩ := r.get (List.getElem?_eq_getElem hi)
    exact ⟨vs, v, q, hv⟩
  stops := fun ι st H l R g => by
    obtain ⟨b, vs, hb, q, r⟩ := R.lst (okG_at g (List.mem_singleton_self _))
    have e : b = a := Option.some.inj (hb.symm.trans (l.get ha))
    subst e
    exact ⟨vs, q, by rw [r.length]; exact Nat.le_refl _⟩
  yields := fun i ι st H x H' hi l R g y => by
    obtain ⟨b, vs, hb, q, r⟩ := R.lst (okG_at g (List.mem_singleton_self _))
    have e : b = a := Option.some.inj (hb.symm.trans (l.get ha))
    subst e
    obtain ⟨rfl, hy⟩ := y
    obtain ⟨v, hv, rv⟩ := r.get (List.getElem?_eq_getElem hi)
    have e2 : x = v := Option.some.inj ((hy vs q).symm.trans hv)
    subst e2
    exact ⟨.refl, R, _, List.getElem?_eq_getElem hi, rv⟩
theorem wk_tup {a : Addr} {xs : List PV} {vs : List V} {ι0 : List Addr} {H0 : Hp} (h : SqT K H0 a vs) (r : RVs K mg ι0 H0 xs vs) : Wk K mg ⟨xs, []⟩ [] ι0 H0 (Itt K a) where
  goes := fun i ι st H hi l R g => by
    obtain ⟨v, hv, _⟩ := r.get (List.getElem?_eq_getElem hi)
    exact ⟨vs, v, SqT.le l.ex h, hv⟩
  stops := fun ι st H l R g => ⟨vs, SqT.le l.ex h, by rw [r.length]; exact Nat.le_refl _⟩
  yields := fun i ι st H x H' hi l R g y => by
    obtain ⟨rfl, hy⟩ := y
    obtain ⟨v, hv, rv⟩ := r.get (List.getElem?_eq_getElem hi)
    have e2 : x = v := Option.some.inj ((hy vs (SqT.le l.ex h)).symm.trans hv)
    subst e2
    exact ⟨.refl, R, _, List.getElem?_eq_getElem hi, rv.le l.ex⟩
theorem rngI_get {a b : Int} {i : Nat} (h : i < (b - a).toNat) : (rngI a b)[i]? = some (.int (a + i)) := by
  unfold rngI
  rw [List.getElem?_map, List.getElem?_range h]; rfl
theorem rngI_len {a b : Int} : (rngI a b).length = (b - a).toNat := by unfold rngI; simp
theorem wk_rng {a b : Int} {ι0 : List Addr} {H0 : Hp} : Wk K mg ⟨rngI a b, []⟩ [] ι0 H0 (Itr a (b - a).toNat) where
  goes := fun i ι st H hi l R g => by rw [rngI_len] at hi; exact hi
  stops := fun ι st H l R g => by show (b - a).toNat ≤ (rngI a b).length; rw [rngI_len]; exact Nat.le_refl _
  yields := fun i ι st H x H' hi l R g y => by
    obtain ⟨rfl, rfl⟩ := y
    rw [rngI_len] at hi
    exact ⟨.refl, R, _, rngI_get hi, rfl⟩
theorem RPs.get {κ : Type} : ∀ {xs : List (κ × PV)} {vs : List (κ × V)} {i : Nat} {k : κ} {x : PV}, RPs K mg ι H xs vs → xs[i]? = some (k, x) → ∃ v, vs[i]? = some (k, v) ∧ RV K mg ι H x v
  | [], _, _, _, _, _, e => by simp at e
  | y :: xs, vs, i, k, x, h, e => by
    simp only [RPs] at h
    obtain ⟨v, r, rfl, q, t⟩ := h
    cases i with
    | zero =>
      have : y = (k, x) := by simpa using e
      subst this
      exact ⟨v, rfl, q⟩
    | succ j => exact RPs.get (i := j) t (by simpa using e)
theorem RPs.length {κ : Type} : ∀ {xs : List (κ × PV)} {vs : List (κ × V)}, RPs K mg ι H xs vs → xs.length = vs.length
  | [], vs, h => by simp only [RPs] at h; subst h; rfl
  | x :: xs, vs, h => by
    simp only [RPs] at h
    obtain ⟨v, r, e, _, t⟩ := h
    rw [e, List.length_cons, List.length_cons, RPs.length t]
theorem rv_key {k : Key} : RV K mg ι H (kP k) (kV k) := by
  cases k <;> rfl
/-- the keys of a locked dict -/
theorem wk_keys {d : Addr} {o : Obj} {kvs : List (Key × PV)} {kw : List (Key × V)} {ι0 : List Addr} {H0 : Hp} (h : H0 d = some (.frz o (.dK kw))) (r : RPs K mg ι0 H0 kvs kw) : Wk K mg ⟨kvs.map fun p => kP p.1, []⟩ [] ι0 H0 (Itk d o kw) where
  goes := fun i ι st H hi l R g => ⟨l.frzs _ _ _ h, by rw [← r.length]; simpa using hi⟩
  stops := fun ι st H l R g => ⟨l.frzs _ _ _ h, by rw [← r.length]; simp⟩
  yields := fun i ι st H x H' hi l R g y => by
    obtain ⟨rfl, k, v, hkv, rfl⟩ := y
    have hi : i < kvs.length := by simpa using hi
    obtain ⟨u, hu, _⟩ := r.get (k := kvs[i].1) (x := kvs[i].2) (List.getElem?_eq_getElem hi)
    rw [hu] at hkv
    cases hkv
    exact ⟨.refl, R, kP kvs[i].1, by rw [List.getElem?_map, List.getElem?_eq_getElem hi]; rfl, rv_key⟩
theorem enumI_get : ∀ {xs : List PV} {i k : Nat} {x : PV}, xs[i]? = some x → (enumI k xs)[i]? = some (.tup [.int ((k + i : Nat) : Int), x])
  | [], _, _, _, e => by simp at e
  | y :: xs, 0, k, x, e => by
    have : y = x := by simpa using e
    subst this
    rfl
  | y :: xs, i + 1, k, x, e => by
    have ih := enumI_get (k := k + 1) (show xs[i]? = some x by simpa using e)
    show (enumI (k + 1) xs)[i]? = _
    rw [ih]
    rw [show k + 1 + i = k + (i + 1) by omega]
theorem enumI_len : ∀ {xs : List PV} {k : Nat}, (enumI k xs).length = xs.length
  | [], _ => rfl
  | y :: xs, k => by show (enumI (k + 1) xs).length + 1 = xs.length + 1; rw [enumI_len]
theorem pair_new {T : Addr} {x y : PV} {v u : V} (hn : H T = none) (rx : RV K mg ι H x v) (ry : RV K mg ι H y u) : RV K mg ι (upd H T (.tup [v, u])) (.tup [x, y]) (.ref T) := by
  simp only [RV]
  exact ⟨T, [v, u], rfl, .inl (.inl upd_same), RVs.cons (rx.le (Le.new (ι := ι) hn).ex) (RVs.cons (ry.le (Le.new (ι := ι) hn).ex) .nil)⟩
theorem wk_enumT {a : Addr} {xs : List PV} {vs : List V} {ι0 : List Addr} {H0 : Hp} (h : SqT K H0 a vs) (r : RVs K mg ι0 H0 xs vs) : Wk K mg ⟨enumI 0 xs, []⟩ [] ι0 H0 (IteT K a) where
  goes := fun i ι st H hi l R g => by
    simp only [enumI_len] at hi
    obtain ⟨v, hv, _⟩ := r.get (List.getElem?_eq_getElem hi)
    exact ⟨vs, v, SqT.le l.ex h, hv⟩
  stops := fun ι st H l R g => ⟨vs, SqT.le l.ex h, by show vs.length ≤ (enumI 0 xs).length; rw [enumI_len, r.length]; exact Nat.le_refl _⟩
  yields := fun i ι st H x H' hi l R g y => by
    simp only [enumI_len] at hi
    obtain ⟨T, v, rfl, hn, rfl, hy⟩ := y
    obtain ⟨u, hu, rv⟩ := r.get (List.getElem?_eq_getElem hi)
    have e2 : v = u := Option.some.inj ((hy vs (SqT.le l.ex h)).symm.trans hu)
    subst e2
    refine ⟨.new hn, R.new hn, _, enumI_get (List.getElem?_eq_getElem hi), ?_⟩
    rw [Nat.zero_add]
    exact pair_new hn rfl (rv.le l.ex)
theorem wk_enum {n : Nat} {a : Addr} {xs : List PV} {ι0 : List Addr} {H0 : Hp} (ha : ι0[n]? = some a) : Wk K mg ⟨enumI 0 xs, [(n, xs)]⟩ [] ι0 H0 (Ite K a) where
  goes := fun i ι st H hi l R g => by
    simp only [enumI_len] at hi
    obtain ⟨b, vs, hb, q, r⟩ := R.lst (okG_at g (List.mem_singleton_self _))
    have e : b = a := Option.some.inj (hb.symm.trans (l.get ha))
    subst e
    obtain ⟨v, hv, _⟩ := r.get (List.getElem?_eq_getElem hi)
    exact ⟨vs, v, q, hv⟩
  stops := fun ι st H l R g => by
    obtain ⟨b, vs, hb, q, r⟩ := R.lst (okG_at g (List.mem_singleton_self _))
    have e : b = a := Option.some.inj (hb.symm.trans (l.get ha))
    subst e
    exact ⟨vs, q, by show vs.length ≤ (enumI 0 xs).length; rw [enumI_len, r.length]; exact Nat.le_refl _⟩
  yields := fun i ι st H x H' hi l R g y => by
    simp only [enumI_len] at hi
    obtain ⟨b, vs, hb, q, r⟩ := R.lst (okG_at g (List.mem_singleton_self _))
    have e : b = a := Option.some.inj (hb.symm.trans (l.get ha))
    subst e
    obtain ⟨T, v, rfl, hn, rfl, hy⟩ := y
    obtain ⟨u, hu, rv⟩ := r.get (List.getElem?_eq_getElem hi)
    have e2 : v = u := Option.some.inj ((hy vs q).symm.trans hu)
    subst e2
    refine ⟨.new hn, R.new hn, _, enumI_get (List.getElem?_eq_getElem hi), ?_⟩
    rw [Nat.zero_add]
    exact pair_new hn rfl rv
theorem zipI_get : ∀ {xs ys : List PV} {i : Nat} {x y : PV}, xs[i]? = some x → ys[i]? = some y → (zipI xs ys)[i]? = some (.tup [x, y])
  | [], _, _, _, _, e, _ => by simp at e
  | _ :: _, [], _, _, _, _, e => by simp at e
  | a :: xs, b :: ys, 0, x, y, e, f => by
    have h1 : a = x := by simpa using e
    have h2 : b = y := by simpa using f
    subst h1; subst h2; rfl
  | a :: xs, b :: ys, i + 1, x, y, e, f => zipI_get (xs := xs) (ys := ys) (by simpa using e) (by simpa using f)
theorem zipI_len : ∀ {xs ys : List PV}, (zipI xs ys).length = min xs.length ys.length
  | [], ys => by simp [zipI]
  | _ :: _, [] => by simp [zipI]
  | a :: xs, b :: ys => by show (zipI xs ys).length + 1 = _; rw [zipI_len]; simp only [List.length_cons]; omega
theorem wk_zipT {a b : Addr} {xs ys : List PV} {vs ws : List V} {ι0 : List Addr} {H0 : Hp} (h : SqT K H0 a vs) (h' : SqT K H0 b ws) (r : RVs K mg ι0 H0 xs vs) (r' : RVs K mg ι0 H0 ys ws) : Wk K mg ⟨zipI xs ys, []⟩ [] ι0 H0 (RZ.ItzT K a b) where
  goes := fun i ι st H hi l R g => by
    simp only [zipI_len] at hi
    obtain ⟨v, hv, _⟩ := r.get (List.getElem?_eq_getElem (show i < xs.length by omega))
    obtain ⟨u, hu, _⟩ := r'.get (List.getElem?_eq_getElem (show i < ys.length by omega))
    exact ⟨vs, ws, v, u, SqT.le l.ex h, SqT.le l.ex h', hv, hu⟩
  stops := fun ι st H l R g => by
    refine ⟨vs, ws, SqT.le l.ex h, SqT.le l.ex h', ?_⟩
    simp only [zipI_len, ← r.length, ← r'.length]
    omega
  yields := fun i ι st H x H' hi l R g y => by
    simp only [zipI_len] at hi
    obtain ⟨T, v, w, rfl, hn, rfl, hy, hy'⟩ := y
    obtain ⟨u, hu, rv⟩ := r.get (List.getElem?_eq_getElem (show i < xs.length by omega))
    obtain ⟨u', hu', rv'⟩ := r'.get (List.getElem?_eq_getElem (show i < ys.length by omega))
    have e2 : v = u := Option.some.inj ((hy vs (SqT.le l.ex h)).symm.trans hu)
    have e3 : w = u' := Option.some.inj ((hy' ws (SqT.le l.ex h')).symm.trans hu')
    subst e2; subst e3
    exact ⟨.new hn, R.new hn, _, zipI_get (List.getElem?_eq_getElem (show i < xs.length by omega)) (List.getElem?_eq_getElem (show i < ys.length by omega)), pair_new hn (rv.le l.ex) (rv'.le l.ex)⟩
theorem okG_app {g g' : List (Nat × List PV)} : okG (g ++ g') st = true ↔ okG g st = true ∧ okG g' st = true := by
  unfold okG
  rw [List.all_append, Bool.and_eq_true]
theorem wk_zip {m n : Nat} {a b : Addr} {xs ys : List PV} {ι0 : List Addr} {H0 : Hp} (ha : ι0[m]? = some a) (hb : ι0[n]? = some b) : Wk K mg ⟨zipI xs ys, [(m, xs)] ++ [(n, ys)]⟩ [] ι0 H0 (Itz K a b) where
  goes := fun i ι st H hi l R g => by
    simp only [zipI_len] at hi
    obtain ⟨a', vs, ha', q, r⟩ := R.lst (okG_at (okG_app.mp g).1 (List.mem_singleton_self _))
    obtain ⟨b', ws, hb', q', r'⟩ := R.lst (okG_at (okG_app.mp g).2 (List.mem_singleton_self _))
    have e : a' = a := Option.some.inj (ha'.symm.trans (l.get ha))
    have e' : b' = b := Option.some.inj (hb'.symm.trans (l.get hb))
    subst e; subst e'
    obtain ⟨v, hv, _⟩ := r.get (List.getElem?_eq_getElem (show i < xs.length by omega))
    obtain ⟨u, hu, _⟩ := r'.get (List.getElem?_eq_getElem (show i < ys.length by omega))
    exact ⟨vs, ws, v, u, q, q', hv, hu⟩
  stops := fun ι st H l R g => by
    obtain ⟨a', vs, ha', q, r⟩ := R.lst (okG_at (okG_app.mp g).1 (List.mem_singleton_self _))
    obtain ⟨b', ws, hb', q', r'⟩ := R.lst (okG_at (okG_app.mp g).2 (List.mem_singleton_self _))
    have e : a' = a := Option.some.inj (ha'.symm.trans (l.get ha))
    have e' : b' = b := Option.some.inj (hb'.symm.trans (l.get hb))
    subst e; subst e'
    refine ⟨vs, ws, q, q', ?_⟩
    simp only [zipI_len, ← r.length, ← r'.length]
    omega
  yields := fun i ι st H x H' hi l R g y => by
    simp only [zipI_len] at hi
    obtain ⟨a', vs, ha', q, r⟩ := R.lst (okG_at (okG_app.mp g).1 (List.mem_singleton_self _))
    obtain ⟨b', ws, hb', q', r'⟩ := R.lst (okG_at (okG_app.mp g).2 (List.mem_singleton_self _))
    have e : a' = a := Option.some.inj (ha'.symm.trans (l.get ha))
    have e' : b' = b := Option.some.inj (hb'.symm.trans (l.get hb))
    subst e; subst e'
    obtain ⟨T, v, w, rfl, hn, rfl, hy, hy'⟩ := y
    obtain ⟨u, hu, rv⟩ := r.get (List.getElem?_eq_getElem (show i < xs.length by omega))
    obtain ⟨u', hu', rv'⟩ := r'.get (List.getElem?_eq_getElem (show i < ys.length by omega))
    have e2 : v = u := Option.some.inj ((hy vs q).symm.trans hu)
    have e3 : w = u' := Option.some.inj ((hy' ws q').symm.trans hu')
    subst e2; subst e3
    exact ⟨.new hn, R.new hn, _, zipI_get (List.getElem?_eq_getElem (show i < xs.length by omega)) (List.getElem?_eq_getElem (show i < ys.length by omega)), pair_new hn rv rv'⟩
/-- a list that the store does not speak of -/
theorem wk_own {D : Addr} {xs : List PV} {vs : List V} {ι0 : List Addr} {H0 : Hp} (h : H0 D = some (.lst vs)) (r : RVs K mg ι0 H0 xs vs) : Wk K mg ⟨xs, []⟩ [D] ι0 H0 (Itl K D) where
  goes := fun i ι st H hi l R g => by
    obtain ⟨v, hv, _⟩ := r.get (List.getElem?_eq_getElem hi)
    exact ⟨vs, v, .inl (.inl (l.keep _ _ h (List.mem_singleton_self _))), hv⟩
  stops := fun ι st H l R g => ⟨vs, .inl (.inl (l.keep _ _ h (List.mem_singleton_self _))), by rw [r.length]; exact Nat.le_refl _⟩
  yields := fun i ι st H x H' hi l R g y => by
    obtain ⟨rfl, hy⟩ := y
    obtain ⟨v, hv, rv⟩ := r.get (List.getElem?_eq_getElem hi)
    have e2 : x = v := Option.some.inj ((hy vs (.inl (.inl (l.keep _ _ h (List.mem_singleton_self _))))).symm.trans hv)
    subst e2
    exact ⟨.refl, R, _, List.getElem?_eq_getElem hi, rv.le l.ex⟩
end
section
variable {X : Cx} {tg e e2 : Expr} {f g : Env → Store → Option (PV × Store)} {p pos tpos : Pos} {elts : List Expr} {kk : Nat}
/-- a value that is walked -/
theorem ji_val (he : JE X e f) : JI X tg e (fun env st => (f env st).bind fun (v, s1) => (srcOf v s1).bind fun src => some (src, s1)) :=
  PI_imp (PI_or (pi_list he) (PI_or (pi_tup he) (PI_or (pi_keys he) (pi_str he)))) fun σ H R ⟨ι, env, st, src, st', Rs, E, e1, q⟩ => by
  cases h1 : f env st with
  | none => simp [h1] at e1
  | some pr =>
    obtain ⟨v, s1⟩ := pr
    cases h2 : srcOf v s1 with
    | none => simp [h1, h2] at e1
    | some sr =>
      simp only [h1, h2, Option.bind_some, Option.some.injEq, Prod.mk.injEq] at e1
      obtain ⟨rfl, rfl⟩ := e1
      unfold srcOf at h2
      split at h2
      · -- a tuple
        rename_i xs
        cases h2
        refine .inr (.inl ⟨ι, env, st, _, s1, Rs, E, h1, fun ι1 u H1 l1 R1 r1 => ?_⟩)
        simp only [RV] at r1
        obtain ⟨a, vs, rfl, h, r⟩ := r1
        exact ⟨a, rfl, ⟨vs, h⟩, q ι1 _ [] H1 l1 R1 (fun _ z => nomatch z) (wk_tup h r)⟩
      · rename_i n
        split at h2
        · rename_i xs hs
          cases h2
          refine .inl ⟨ι, env, st, _, s1, Rs, E, h1, fun ι1 u H1 l1 R1 r1 => ?_⟩
          simp only [RV] at r1
          obtain ⟨a, ha, rfl⟩ := r1
          obtain ⟨b, vs, hb, hq, _⟩ := R1.lst (.inl hs)
          have : b = a := Option.some.inj (hb.symm.trans ha)
          subst this
          exact ⟨b, rfl, ⟨vs, hq⟩, q ι1 _ [] H1 l1 R1 (fun _ z => nomatch z) (wk_list ha)⟩
        · rename_i xs hs
          cases h2
          refine .inl ⟨ι, env, st, _, s1, Rs, E, h1, fun ι1 u H1 l1 R1 r1 => ?_⟩
          simp only [RV] at r1
          obtain ⟨a, ha, rfl⟩ := r1
          obtain ⟨b, vs, hb, hq, _⟩ := R1.lst (.inr hs)
          have : b = a := Option.some.inj (hb.symm.trans ha)
          subst this
          exact ⟨b, rfl, ⟨vs, hq⟩, q ι1 _ [] H1 l1 R1 (fun _ z => nomatch z) (wk_list ha)⟩
        · rename_i kvs hs
          cases h2
          refine .inr (.inr (.inl ⟨ι, env, st, _, s1, Rs, E, h1, fun ι1 u H1 l1 R1 r1 => ?_⟩))
          simp only [RV] at r1
          obtain ⟨a, ha, rfl⟩ := r1
          obtain ⟨b, hb, o, kw, hd, r⟩ := R1.ob n _ hs
          have : b = a := Option.some.inj (hb.symm.trans ha)
          subst this
          exact ⟨b, o, rfl, .inl ⟨kw, hd, q ι1 _ [] H1 l1 R1 (fun _ z => nomatch z) (wk_keys hd r)⟩⟩
        · cases h2
      · -- a text
        rename_i x
        cases h2
        refine .inr (.inr (.inr ⟨ι, env, st, _, s1, Rs, E, h1, fun ι1 u H1 l1 R1 r1 => ?_⟩))
        refine ⟨x, r1, q ι1 _ [] H1 l1 R1 (fun _ z => nomatch z) ⟨fun i ι st H hi l R g => ?_, fun ι st H l R g => ?_, fun i ι st H y H' hi l R g yl => ?_⟩⟩
        · show i < x.cps.size
          simpa using hi
        · show x.cps.size ≤ _
          simp
        · obtain ⟨rfl, c, hc, rfl⟩ := yl
          refine ⟨.refl, R, .str ⟨#[c]⟩, ?_, rfl⟩
          rw [List.getElem?_map, Array.getElem?_toList, hc]
          rfl
      · cases h2
/-- a new list that is walked -/
theorem ji_ofl {f : Env → Store → Option (List PV × Store)} (he : JL X e f) : JI X tg e (fun env st => (f env st).bind fun (xs, s1) => some (⟨xs, []⟩, s1)) := PI_imp (pi_list he) fun σ H R ⟨ι, env, st, src, st', Rs, E, e1, q⟩ => by
  cases h1 : f env st with
  | none => simp [h1] at e1
  | some pr =>
    obtain ⟨xs, s1⟩ := pr
    simp only [h1, Option.bind_some, Option.some.injEq, Prod.mk.injEq] at e1
    obtain ⟨rfl, rfl⟩ := e1
    exact ⟨ι, env, st, xs, s1, Rs, E, h1, fun ι1 D vs H1 l1 R1 h0 hn hD r1 => ⟨D, rfl, ⟨vs, .inl (.inl hD)⟩, q ι1 _ [D] H1 l1 R1 (fun p z => by rw [List.mem_singleton.mp z]; exact ⟨h0, hn, _, hD⟩) (wk_own hD r1)⟩⟩
theorem small62_iff {i : Int} (h : small62 i = true) : -(2 ^ 62) ≤ i ∧ i < 2 ^ 62 := by
  unfold small62 at h
  simpa using h
theorem ji_rng1 {f : Env → Store → Option (List PV × Store)} (hg : Gl X "range") (hm : X.mg "range" = none) (u : unst e = true) (ha : JA X [e] f) (hl : ∀ env st xs s1, f env st = some (xs, s1) → xs.length = 1) :
    JI X tg (.Call (.Name "range" p) [e] [] pos) (fun env st => (f env st).bind fun (vs, s1) => (srcRng vs).bind fun src => some (src, s1)) := PI_imp (pi_range1 hg hm ha (by rw [starEach_cons u]; rfl)) fun σ H R ⟨ι, env, st, src, st', Rs, E, e1, q⟩ => by
  cases h1 : f env st with
  | none => simp [h1] at e1
  | some pr =>
    obtain ⟨xs, s1⟩ := pr
    have h0 := hl _ _ _ _ h1
    cases h2 : srcRng xs with
    | none => simp [h1, h2] at e1
    | some sr =>
      simp only [h1, h2, Option.bind_some, Option.some.injEq, Prod.mk.injEq] at e1
      obtain ⟨rfl, rfl⟩ := e1
      unfold srcRng at h2
      split at h2
      · rename_i b
        split at h2
        · rename_i hs
          cases h2
          refine ⟨ι, env, st, _, s1, Rs, E, h1, fun ι1 vs H1 l1 R1 r1 => ?_⟩
          obtain ⟨v, rfl, rv⟩ := r1.one
          have hv : v = .int b := rv
          subst hv
          refine ⟨b, rfl, (small62_iff hs).1, (small62_iff hs).2, ?_⟩
          have w := q ι1 (Itr 0 (b - 0).toNat) [] H1 l1 R1 (fun _ z => nomatch z) wk_rng
          rw [Int.sub_zero] at w
          exact w
        · cases h2
      · simp at h0
      · simp at h0
      · cases h2
theorem ji_rng2 {f : Env → Store → Option (List PV × Store)} (hg : Gl X "range") (hm : X.mg "range" = none) (u : unst e = true) (u2 : unst e2 = true) (ha : JA X [e, e2] f) (hl : ∀ env st xs s1, f env st = some (xs, s1) → xs.length = 2) :
    JI X tg (.Call (.Name "range" p) [e, e2] [] pos) (fun env st => (f env st).bind fun (vs, s1) => (srcRng vs).bind fun src => some (src, s1)) := PI_imp (pi_range2 hg hm ha (by rw [starEach_cons u, starEach_cons u2]; rfl) (by rw [starEach_cons u2]; rfl)) fun σ H R ⟨ι, env, st, src, st', Rs, E, e1, q⟩ => by
  cases h1 : f env st with
  | none => simp [h1] at e1
  | some pr =>
    obtain ⟨xs, s1⟩ := pr
    have h0 := hl _ _ _ _ h1
    cases h2 : srcRng xs with
    | none => simp [h1, h2] at e1
    | some sr =>
      simp only [h1, h2, Option.bind_some, Option.some.injEq, Prod.mk.injEq] at e1
      obtain ⟨rfl, rfl⟩ := e1
      unfold srcRng at h2
      split at h2
      · simp at h0
      · rename_i a b
        split at h2
        · rename_i hs
          simp only [Bool.and_eq_true] at hs
          cases h2
          refine ⟨ι, env, st, _, s1, Rs, E, h1, fun ι1 vs H1 l1 R1 r1 => ?_⟩
          obtain ⟨v, w, rfl, rv, rw'⟩ := r1.two
          have hv : v = .int a := rv
          have hw : w = .int b := rw'
          subst hv; subst hw
          exact ⟨a, b, rfl, ⟨(small62_iff hs.1).1, (small62_iff hs.1).2, (small62_iff hs.2).1, (small62_iff hs.2).2⟩, q ι1 (Itr a (b - a).toNat) [] H1 l1 R1 (fun _ z => nomatch z) wk_rng⟩
        · cases h2
      · simp at h0
      · cases h2
/-- downwards -/
theorem wk_rngD {a b : Int} {K : PySem.W.Frag} {mg : Str → Option Value} {ι0 : List Addr} {H0 : Hp} : Wk K mg ⟨(List.range (a - b).toNat).map fun i => .int (a - (i : Nat)), []⟩ [] ι0 H0 (Itc a (-1) (a - b).toNat) where
  goes := fun i ι st H hi l R g => by
    rw [List.length_map, List.length_range] at hi
    exact hi
  stops := fun ι st H l R g => by
    show (a - b).toNat ≤ _
    rw [List.length_map, List.length_range]
    exact Nat.le_refl _
  yields := fun i ι st H x H' hi l R g y => by
    obtain ⟨rfl, rfl⟩ := y
    rw [List.length_map, List.length_range] at hi
    refine ⟨.refl, R, .int (a - (i : Nat)), by rw [List.getElem?_map, List.getElem?_range hi]; rfl, ?_⟩
    simp only [RV]
    congr 1
    omega
theorem ji_rng3 {e3 : Expr} {f : Env → Store → Option (List PV × Store)} (hg : Gl X "range") (hm : X.mg "range" = none) (u : unst e = true) (u2 : unst e2 = true) (u3 : unst e3 = true) (ha : JA X [e, e2, e3] f) (hl : ∀ env st xs s1, f env st = some (xs, s1) → xs.length = 3) :
    JI X tg (.Call (.Name "range" p) [e, e2, e3] [] pos) (fun env st => (f env st).bind fun (vs, s1) => (srcRng vs).bind fun src => some (src, s1)) := PI_imp (pi_range3 hg hm ha (by rw [starEach_cons u]) (by rw [starEach_cons u2, starEach_cons u3]; rfl)) fun σ H R ⟨ι, env, st, src, st', Rs, E, e1, q⟩ => by
  rw [Option.bind_eq_some_iff] at e1
  obtain ⟨⟨xs, s1⟩, h1, e1⟩ := e1
  rw [Option.bind_eq_some_iff] at e1
  obtain ⟨sr, h2, e1⟩ := e1
  cases e1
  have h0 := hl _ _ _ _ h1
  unfold srcRng at h2
  split at h2
  · simp at h0
  · simp at h0
  · rename_i a b
    split at h2
    · rename_i hs
      simp only [Bool.and_eq_true] at hs
      cases h2
      refine ⟨ι, env, st, _, _, Rs, E, h1, fun ι1 vs H1 l1 R1 r1 => ?_⟩
      simp only [RVs, RV] at r1
      obtain ⟨_, _, rfl, rfl, _, _, rfl, rfl, _, _, rfl, rfl, rfl⟩ := r1
      exact ⟨a, b, -1, (a - b).toNat, rfl, RgC.neg (small62_iff hs.1).1 (small62_iff hs.1).2 (small62_iff hs.2).1 (small62_iff hs.2).2, q ι1 (Itc a (-1) (a - b).toNat) [] H1 l1 R1 (fun _ z => nomatch z) wk_rngD⟩
    · cases h2
  · cases h2
theorem ji_enu (hg : Gl X "enumerate") (hm : X.mg "enumerate" = none) (u : unst e = true) (he : JE X e f) : JI X (.Tuple elts kk tpos) (.Call (.Name "enumerate" p) [e] [] pos) (fun env st => (f env st).bind fun (v, s1) => (seqOf v s1).bind fun p => some (⟨enumI 0 p.1, p.2⟩, s1)) :=
  PI_imp (PI_or (pi_enum hg hm (ja_cons u he ja_nil) (by rw [starEach_cons u]; rfl)) (pi_enumT hg hm (ja_cons u he ja_nil) (by rw [starEach_cons u]; rfl))) fun σ H R ⟨ι, env, st, src, st', Rs, E, e1, q⟩ => by
  cases h1 : f env st with
  | none => simp [h1] at e1
  | some pr =>
    obtain ⟨v, s1⟩ := pr
    cases h2 : seqOf v s1 with
    | none => simp [h1, h2] at e1
    | some sr =>
      simp only [h1, h2, Option.bind_some, Option.some.injEq, Prod.mk.injEq] at e1
      obtain ⟨rfl, rfl⟩ := e1
      have hA : (fun (env : Env) (st : Store) => (f env st).bind fun (v, s1) => (some ([], s1) : Option (List PV × Store)).bind fun (vs, s2) => some (v :: vs, s2)) env st = some ([v], s1) := by simp [h1]
      unfold seqOf at h2
      split at h2
      · rename_i xs
        cases h2
        refine .inr ⟨ι, env, st, [.tup xs], s1, Rs, E, hA, fun ι1 vs H1 l1 R1 r1 => ?_⟩
        obtain ⟨w, rfl, r2⟩ := r1.one
        simp only [RV] at r2
        obtain ⟨a, vs, rfl, h, r⟩ := r2
        exact ⟨a, vs, rfl, h, q ι1 _ [] H1 l1 R1 (fun _ z => nomatch z) (wk_enumT h r)⟩
      · rename_i n
        have go : ∀ xs, (s1[n]? = some (.lst xs) ∨ s1[n]? = some (.fls xs)) → sr = (xs, [(n, xs)]) → iEnum X.K (LA X.K X.mg (fun (env : Env) (st : Store) => (f env st).bind fun (v, s1) => (some ([], s1) : Option (List PV × Store)).bind fun (vs, s2) => some (v :: vs, s2))) σ H R := fun xs hs es => by
          subst es
          refine ⟨ι, env, st, [.ref n], s1, Rs, E, hA, fun ι1 vs H1 l1 R1 r1 => ?_⟩
          obtain ⟨w, rfl, r2⟩ := r1.one
          simp only [RV] at r2
          obtain ⟨a, ha, rfl⟩ := r2
          obtain ⟨b, vs, hb, hq, _⟩ := R1.lst hs
          have : b = a := Option.some.inj (hb.symm.trans ha)
          subst this
          exact ⟨b, vs, rfl, hq, q ι1 _ [] H1 l1 R1 (fun _ z => nomatch z) (wk_enum ha)⟩
        split at h2
        · rename_i xs hs
          cases h2
          exact .inl (go xs (.inl hs) rfl)
        · rename_i xs hs
          cases h2
          exact .inl (go xs (.inr hs) rfl)
        · cases h2
      · cases h2
theorem seqOf_ref {n : Nat} {st : Store} {p : List PV × List (Nat × List PV)} (h : seqOf (.ref n) st = some p) : ∃ xs, p = (xs, [(n, xs)]) ∧ (st[n]? = some (.lst xs) ∨ st[n]? = some (.fls xs)) := by
  unfold seqOf at h
  simp only at h
  split at h
  · rename_i xs hs
    cases h
    exact ⟨xs, rfl, .inl hs⟩
  · rename_i xs hs
    cases h
    exact ⟨xs, rfl, .inr hs⟩
  · cases h
theorem ji_zip (hg : Gl X "zip") (hm : X.mg "zip" = none) (u : unst e = true) (u2 : unst e2 = true) (he : JE X e f) (he2 : JE X e2 g) : JI X (.Tuple elts kk tpos) (.Call (.Name "zip" p) [e, e2] [] pos) (fun env st => (f env st).bind fun (v, s1) => (g env s1).bind fun (w, s2) => match v, w with
      | .tup xs, .tup ys => some (⟨zipI xs ys, []⟩, s2)
      | .ref m, .ref n => (seqOf (.ref m) s2).bind fun p => (seqOf (.ref n) s2).bind fun q => some (⟨zipI p.1 q.1, p.2 ++ q.2⟩, s2)
      | _, _ => none) :=
  PI_imp (RZ.pi_zipA hg hm (ja_cons u he (ja_cons u2 he2 ja_nil)) (by rw [starEach_cons u]) (by rw [starEach_cons u2]; rfl)) fun σ H R ⟨ι, env, st, src, st', Rs, E, e1, q⟩ => by
  cases h1 : f env st with
  | none => simp [h1] at e1
  | some pr =>
    obtain ⟨v, s1⟩ := pr
    cases h2 : g env s1 with
    | none => simp [h1, h2] at e1
    | some pr =>
      obtain ⟨w, s2⟩ := pr
      simp only [h1, h2, Option.bind_some] at e1
      refine ⟨ι, env, st, [v, w], s2, Rs, E, by simp [h1, h2], fun ι1 us H1 l1 R1 r1 => ?_⟩
      obtain ⟨x, y, rfl, r2, r3⟩ := r1.two
      split at e1
      · rename_i xs ys
        cases e1
        simp only [RV] at r2 r3
        obtain ⟨a, vs, rfl, h, r⟩ := r2
        obtain ⟨b, ws, rfl, h', r'⟩ := r3
        exact ⟨a, b, vs, ws, rfl, .inr ⟨h, h', q ι1 _ [] H1 l1 R1 (fun _ z => nomatch z) (wk_zipT h h' r r')⟩⟩
      · rename_i m n
        cases h3 : seqOf (.ref m) s2 with
        | none => simp [h3] at e1
        | some p1 =>
          cases h4 : seqOf (.ref n) s2 with
          | none => simp [h3, h4] at e1
          | some p2 =>
            simp only [h3, h4, Option.bind_some, Option.some.injEq, Prod.mk.injEq] at e1
            obtain ⟨rfl, rfl⟩ := e1
            obtain ⟨xs, rfl, hs⟩ := seqOf_ref h3
            obtain ⟨ys, rfl, hs'⟩ := seqOf_ref h4
            simp only [RV] at r2 r3
            obtain ⟨a, ha, rfl⟩ := r2
            obtain ⟨b, hb, rfl⟩ := r3
            obtain ⟨a', vs, ha', hq, _⟩ := R1.lst hs
            obtain ⟨b', ws, hb', hq', _⟩ := R1.lst hs'
            have e5 : a' = a := Option.some.inj (ha'.symm.trans ha)
            have e6 : b' = b := Option.some.inj (hb'.symm.trans hb)
            subst e5; subst e6
            exact ⟨a', b', vs, ws, rfl, .inl ⟨hq, hq', q ι1 _ [] H1 l1 R1 (fun _ z => nomatch z) (wk_zip ha hb)⟩⟩
      · cases e1
end
end Den

/-! DenF: targets, comprehensions, locks. -/
namespace Den
open PySem PySem.Spec PyProof.Rows L2
/-! ### an object that the store does not speak of -/
theorem Le.off {ι ι' : List Addr} {H H' : Hp} {D : Addr} {o : HO} (l : Le ι ι' H H') (h0 : H D = none) : Le ι ι' H (L2.upd H' D o) :=
  ⟨l.pre, l.fresh, fun b xs e => by rw [upd_ne (ne_of_none e h0)]; exact l.tups b xs e, fun b u xs e => by rw [upd_ne (ne_of_none e h0)]; exact l.frzs b u xs e, fun b u e hn => by rw [upd_ne (ne_of_none e h0)]; exact l.keep b u e hn⟩
theorem Ex.off {ι : List Addr} {H : Hp} {D : Addr} {o u : HO} (h : H D = some u) (m : Mut (some u)) : Ex ι ι H (upd H D o) :=
  ⟨⟨[], by simp⟩, fun b xs e => by rw [upd_ne (fun z => by subst z; rw [h] at e; cases e; exact m)]; exact e, fun b w xs e => by rw [upd_ne (fun z => by subst z; rw [h] at e; cases e; exact m)]; exact e, fun b w xs e => by rw [upd_ne (fun z => by subst z; rw [h] at e; cases e; exact m)]; exact e⟩
section
variable {K : PySem.W.Frag} {mg : Str → Option Value} {ι ι' : List Addr} {H H' : Hp} {st : Store}
theorem RS.off {D : Addr} {o u : HO} (R : RS K mg ι st H) (hn : D ∉ ι) (h : H D = some u) (m : Mut (some u)) : RS K mg ι st (upd H D o) := by
  refine ⟨R.len, R.nd, fun n ob e => ?_⟩
  obtain ⟨a, ha, r⟩ := R.ob n ob e
  exact ⟨a, ha, r.le (Ex.off h m) (upd_ne fun z => hn (by rw [← z]; exact List.mem_of_getElem? ha))⟩
/-- it stays while the store's things change -/
theorem Le.stays (l : Le ι ι' H H') {D : Addr} {o : HO} (hn : D ∉ ι) (h : H D = some o) : H' D = some o ∧ D ∉ ι' := by
  refine ⟨l.keep D o h hn, fun z => ?_⟩
  rcases l.fresh D z with q | q
  · exact hn q
  · rw [h] at q; cases q
end

/-! ### targets -/
def gNms : List Nat → TGs
  | [] => gNil
  | i :: is => gCons (gName i) (gNms is)
def tgR (K : PySem.W.Frag) : Tg → TG
  | .nm i => gName i
  | .tp is => gTup K is.length (gNms is)
def tgIs : Tg → List Nat
  | .nm i => [i]
  | .tp is => is
theorem set_wipe {σ : L2.St} {i : Nat} {v : Option V} : ∀ {vs : List Nat}, i ∈ vs → L2.wipe (σ.set i v) vs = L2.wipe σ vs
  | [], h => by simp at h
  | j :: vs, h => by
    unfold L2.wipe
    by_cases hj : i = j
    · subst hj
      by_cases hm : i ∈ vs
      · rw [set_wipe hm]
      · have : ∀ (vs : List Nat), i ∉ vs → L2.wipe (σ.set i v) vs = (L2.wipe σ vs).set i v := by
          intro vs
          induction vs with
          | nil => intro _; rfl
          | cons k ks ih =>
            intro hk
            simp only [List.mem_cons, not_or] at hk
            unfold L2.wipe
            rw [ih hk.2, List.set_comm _ _ hk.1]
        rw [this vs hm, List.set_set]
    · have hm : i ∈ vs := by
        rcases List.mem_cons.mp h with z | z
        · exact absurd z hj
        · exact z
      rw [set_wipe hm]
theorem wipe_wipe {σ : L2.St} : ∀ (ws vs : List Nat), (∀ i ∈ ws, i ∈ vs) → L2.wipe (L2.wipe σ ws) vs = L2.wipe σ vs
  | [], vs, _ => rfl
  | w :: ws, vs, h => by
    show L2.wipe ((L2.wipe σ ws).set w none) vs = _
    rw [set_wipe (h w (by simp)), wipe_wipe ws vs fun i hi => h i (by simp [hi])]
section
variable {K : PySem.W.Frag} {mg : Str → Option Value} {ι : List Addr} {H : Hp}
/-- what a target's store leaves -/
theorem bind_ok {g : Tg} {env env' : Env} {σ : L2.St} {x : PV} {v : V} {Q : L2.St → Hp → Prop} (E : RE K mg ι H env σ) (r : RV K mg ι H x v) (h : bindT g env x = some env')
    (q : ∀ σ', RE K mg ι H env' σ' → (∀ vs, (∀ i ∈ tgIs g, i ∈ vs) → L2.wipe σ' vs = L2.wipe σ vs) → Q σ' H) : tgR K g v σ H Q := by
  unfold bindT at h
  split at h
  · cases h
    exact q _ (E.set r) fun vs hm => set_wipe (hm _ (by simp [tgIs]))
  · rename_i i j x y
    cases h
    simp only [RV] at r
    obtain ⟨a, us, rfl, hT, rs⟩ := r
    obtain ⟨u, w, rfl, ru, rw'⟩ := rs.two
    refine ⟨a, [u, w], rfl, hT, rfl, u, [w], rfl, ?_⟩
    refine ⟨w, [], rfl, rfl, ?_⟩
    exact q _ ((E.set ru).set rw') fun vs hm => by rw [set_wipe (hm _ (by simp [tgIs])), set_wipe (hm _ (by simp [tgIs]))]
  · rename_i i j k x y z
    cases h
    simp only [RV] at r
    obtain ⟨a, us, rfl, hT, rs⟩ := r
    simp only [RVs] at rs
    obtain ⟨u1, _, rfl, r1, u2, _, rfl, r2, u3, _, rfl, r3, rfl⟩ := rs
    refine ⟨a, [u1, u2, u3], rfl, hT, rfl, u1, [u2, u3], rfl, ?_⟩
    refine ⟨u2, [u3], rfl, ?_⟩
    refine ⟨u3, [], rfl, rfl, ?_⟩
    exact q _ (((E.set r1).set r2).set r3) fun vs hm => by rw [set_wipe (hm _ (by simp [tgIs])), set_wipe (hm _ (by simp [tgIs])), set_wipe (hm _ (by simp [tgIs]))]
  · cases h

/-! ### the turns of a comprehension -/
variable {fi : Env → Store → Option (Src × Store)} {ft : Env → Store → Option (Bool × Store)} {fe fk fv : Env → Store → Option (PV × Store)} {g : Tg} {own : List Nat}
abbrev coreL (fi : Env → Store → Option (Src × Store)) (g : Tg) (own : List Nat) (ft : Env → Store → Option (Bool × Store)) (fe : Env → Store → Option (PV × Store)) : Env → Store → Option (List PV × Store) :=
  fun env st => (fi env st).bind fun (src, s1) => compL (bindT g (wipe env own)) (okG src.gd) ft fe src.xs [] s1
/-- one turn more -/
theorem compL_ok {bind : PV → Option Env} {ok : Store → Bool} {test item} {xs acc : List PV} {st : Store} {r} (h : compL bind ok test item xs acc st = some r) : ok st = true := by
  cases xs with
  | nil => unfold compL at h; split at h <;> first | assumption | cases h
  | cons x xs => unfold compL at h; split at h <;> first | assumption | cases h
theorem lt_line {n : Nat} (h : n < 16000000) : n < sizeLine := Nat.lt_of_lt_of_le h (by rw [sizeLine_eq]; decide)
/-- a step that leaves D's own changes out -/
theorem Lw.step {ps ι ι1 ι2 : List Addr} {H H1 H2 : Hp} (l : Lw ps ι ι1 H H1) (m : Le ι1 ι2 H1 H2) (hp : ∀ p ∈ ps, p ∉ ι1) : Lw ps ι ι2 H H2 :=
  ⟨l.ex.trans m.ex, fun b o u e => m.frzs b o u (l.frzs b o u e), fun b o e h => m.keep b o (l.keep b o e h) (hp b h)⟩
theorem Lw.off {ps ι ι1 : List Addr} {H H1 : Hp} {D : Addr} {o u : HO} (l : Lw ps ι ι1 H H1) (hD : D ∉ ps) (h : H1 D = some u) (m : Mut (some u)) : Lw ps ι ι1 H (L2.upd H1 D o) :=
  ⟨l.ex.trans (Ex.off h m), fun b w xs e => by
    have q := l.frzs b w xs e
    rw [upd_ne (fun z => by subst z; rw [h] at q; cases q; exact m)]; exact q, fun b w e hb => by rw [upd_ne (show b ≠ D from fun z => hD (by rw [← z]; exact hb))]; exact l.keep b w e hb⟩
theorem Le.outs {ι ι' : List Addr} {H H' : Hp} (l : Le ι ι' H H') {ps : List Addr} (h : ∀ p ∈ ps, p ∉ ι ∧ ∃ o, H p = some o) : ∀ p ∈ ps, p ∉ ι' ∧ ∃ o, H' p = some o := fun p hp => by
  obtain ⟨n, o, e⟩ := h p hp
  exact ⟨(l.stays n e).2, o, (l.stays n e).1⟩
/-- the walk's loop, the new list's turns: from any state of it. Hb: a heap without the new list -/
theorem lc_turns {src : Src} {J : L2.It} {D : Addr} {env : Env} {σ : L2.St} {Hb : Hp} {ιb ι1 ps : List Addr} {H1 : Hp} {ys : List PV} {st2 : Store} {Qd : Hp → Prop} (hgo : ∀ i ∈ tgIs g, i ∈ own)
    (wk : Wk K mg src ps ι1 H1 J) (E : RE K mg ι1 H1 env σ) (hDb : Hb D = none) (hDp : D ∉ ps) (done : ∀ ι' vs H', Le ιb ι' Hb H' → RS K mg ι' st2 H' → D ∉ ι' → (∀ p ∈ ps, p ∉ ι' ∧ ∃ o, H' p = some o) → Lw ps ι1 ι' H1 H' → H' D = some (.lst vs) → RVs K mg ι' H' ys vs → Qd H')
    (acc0 : List PV) (vs0 : List V) (i0 : Nat) (s1 : Store) (hi0 : i0 ≤ src.xs.length) (h : compL (bindT g (wipe env own)) (okG src.gd) ft fe (src.xs.drop i0) acc0 s1 = some (ys, st2))
    {H2 : Hp} {ι2 : List Addr} (l2 : Le ιb ι2 Hb H2) (w2 : Lw ps ι1 ι2 H1 H2) (o2 : ∀ p ∈ ps, p ∉ ι2 ∧ ∃ o, H2 p = some o) (R2 : RS K mg ι2 s1 H2) (n2 : D ∉ ι2) (d2 : H2 D = some (.lst vs0)) (r2 : RVs K mg ι2 H2 acc0 vs0) :
    ∃ W : Nat → Nat → Hp → Prop, (∃ m, W i0 m H2) ∧ ∀ i m H, W i m H →
      (J.stop i H ∧ Qd H) ∨ (J.go i H ∧ ∃ Nx : Hp → Prop, (∀ H', Nx H' → ∃ m', m' < m ∧ W (i + 1) m' H') ∧ ∀ x H', J.yld i H x H' → tgR K g x (L2.wipe σ own) H' fun σ2 H2 => L2.wipe σ2 own = L2.wipe σ own ∧ LT K mg ft σ2 H2 fun b H3 =>
        if b = true then LE K mg fe σ2 H3 fun y H4 => ∃ acc, H4 D = some (.lst acc) ∧ acc.length < sizeLine ∧ Nx (L2.upd H4 D (.lst (acc ++ [y]))) else Nx H3) := by
  let St (i : Nat) (H : Hp) : Prop := ∃ ι s acc vs, Le ιb ι Hb H ∧ Lw ps ι1 ι H1 H ∧ (∀ p ∈ ps, p ∉ ι ∧ ∃ o, H p = some o) ∧ RS K mg ι s H ∧ D ∉ ι ∧ H D = some (.lst vs) ∧ RVs K mg ι H acc vs ∧ compL (bindT g (wipe env own)) (okG src.gd) ft fe (src.xs.drop i) acc s = some (ys, st2)
  refine ⟨fun i m H => m = src.xs.length - i ∧ i ≤ src.xs.length ∧ St i H, ⟨src.xs.length - i0, rfl, hi0, ι2, s1, acc0, vs0, l2, w2, o2, R2, n2, d2, r2, h⟩, ?_⟩
  rintro i m H ⟨rfl, hi, ι, s, acc, vs, l, lw, ou, R, hn, hd, r, hc⟩
  have hok := compL_ok hc
  by_cases hlt : i < src.xs.length
  · refine .inr ⟨wk.goes i ι s H hlt lw R hok, St (i + 1), fun H' hN => ⟨src.xs.length - (i + 1), by omega, rfl, hlt, hN⟩, fun x H' y => ?_⟩
    obtain ⟨lY, RY, p, hp, rp⟩ := wk.yields i ι s H x H' hlt lw R hok y
    have ed : src.xs.drop i = p :: src.xs.drop (i + 1) := by
      rw [List.drop_eq_getElem_cons hlt]
      rw [List.getElem?_eq_getElem hlt] at hp
      rw [Option.some.inj hp]
    rw [ed] at hc
    unfold compL at hc
    rw [if_pos hok] at hc
    cases hb : bindT g (wipe env own) p with
    | none => simp [hb] at hc
    | some env1 =>
      cases h1 : ft env1 s with
      | none => simp [hb, h1] at hc
      | some pr =>
        obtain ⟨t, s3⟩ := pr
        simp only [hb, h1, Option.bind_some] at hc
        obtain ⟨dY, nY⟩ := lY.stays hn hd
        have wY := lw.step lY fun p hp => (ou p hp).1
        have oY := lY.outs ou
        refine bind_ok (mg := mg) (ι := ι) ((E.le wY.ex).wipe own) rp hb fun σ2 E2 hw => ⟨?_, ?_⟩
        · rw [hw own hgo, wipe_wipe own own fun _ z => z]
        · refine ⟨ι, env1, s, t, s3, RY, E2, h1, fun ι3 H3 l3 R3 => ?_⟩
          obtain ⟨d3, n3⟩ := l3.stays nY dY
          have w3 := wY.step l3 fun p hp => (oY p hp).1
          have o3 := l3.outs oY
          cases t with
          | false =>
            simp only [Bool.false_eq_true, if_false] at hc ⊢
            exact ⟨ι3, s3, acc, vs, (l.trans lY).trans l3, w3, o3, R3, n3, d3, (r.le lY.ex).le l3.ex, hc⟩
          | true =>
            simp only [if_true] at hc ⊢
            cases h4 : fe env1 s3 with
            | none => simp [h4] at hc
            | some pr =>
              obtain ⟨z, s4⟩ := pr
              simp only [h4, Option.bind_some] at hc
              split at hc
              · rename_i hz
                refine ⟨ι3, env1, s3, z, s4, R3, E2.le l3.ex, h4, fun ι4 w H4 l4 R4 r4 => ?_⟩
                obtain ⟨d4, n4⟩ := l4.stays n3 d3
                have w4 := w3.step l4 fun p hp => (o3 p hp).1
                have o4 := l4.outs o3
                have rr : RVs K mg ι4 H4 acc vs := ((r.le lY.ex).le l3.ex).le l4.ex
                refine ⟨vs, d4, lt_line (by rw [← rr.length]; exact hz), ι4, s4, acc ++ [z], vs ++ [w], ?_, w4.off hDp d4 trivial, fun p hp => ⟨(o4 p hp).1, by rw [upd_ne (show p ≠ D from fun z => hDp (by rw [← z]; exact hp))]; exact (o4 p hp).2⟩, R4.off n4 d4 trivial, n4, upd_same, ?_, hc⟩
                · exact (((l.trans lY).trans l3).trans l4).off hDb
                · exact (RVs.append (rr.le (Ex.off d4 trivial)) (RVs.cons (r4.le (Ex.off d4 trivial)) .nil))
              · cases hc
  · have e : i = src.xs.length := by omega
    subst e
    rw [List.drop_length] at hc
    unfold compL at hc
    rw [if_pos hok] at hc
    cases hc
    exact .inl ⟨wk.stops ι _ H lw R hok, done ι vs H l R hn ou lw hd r⟩
theorem wk_some {src : Src} {ps ι : List Addr} {H0 H : Hp} {J : L2.It} (wk : Wk K mg src ps ι H J) : True := trivial
theorem ll_lc (hgo : ∀ i ∈ tgIs g, i ∈ own) {σ : L2.St} {Q : VK} (h : LL K mg (coreL fi g own ft fe) σ H Q) : tLc (LI K mg fi) (tgR K g) (LT K mg ft) (LE K mg fe) own σ H Q := by
  obtain ⟨ι, env, st, ys, st2, R, E, e, q⟩ := h
  unfold coreL at e
  cases h1 : fi env st with
  | none => simp [h1] at e
  | some pr =>
    obtain ⟨src, s1⟩ := pr
    simp only [h1, Option.bind_some] at e
    refine ⟨ι, env, st, src, s1, R, E, h1, fun ι1 J ps H1 l1 R1 hps wk D hD => ?_⟩
    have hn1 := R1.not_mem hD
    have hD0 := l1.absent hD hn1
    have hDp : D ∉ ps := fun z => by
      obtain ⟨_, _, o, e⟩ := hps D z
      rw [hD] at e; cases e
    have o1 : ∀ p ∈ ps, p ∉ ι1 ∧ ∃ o, H1 p = some o := fun p hp => ⟨(hps p hp).2.1, (hps p hp).2.2⟩
    refine lc_turns (i0 := 0) (Qd := fun H' => Q (.ref D) H') hgo wk (E.le l1.ex) hD hDp (fun ι' vs H' l' R' n' _ _ d' r' => ?_) [] [] s1 (Nat.zero_le _) e (Le.new hD) ((Le.new hD).lw fun p hp => (o1 p hp).1)
      (fun p hp => ⟨(o1 p hp).1, by rw [upd_ne (show p ≠ D from fun z => hDp (by rw [← z]; exact hp))]; exact (o1 p hp).2⟩) (R1.new hD) hn1 upd_same .nil
    exact q ι' D vs H' (l1.trans l') R' hD0 n' d' r'
end
section
variable {X : Cx} {elt tg iter : Expr} {ifs : List Expr} {scope : Scope} {own : List (Str × Nat)} {pos : Pos} {g : Tg} {fi : Env → Store → Option (Src × Store)} {ft : Env → Store → Option (Bool × Store)} {fe : Env → Store → Option (PV × Store)}
theorem jl_lc (hc : X.calm = true) (hN : X.N.Nodup) (hi : JI X tg iter fi) (ok : BlkOk X.N X.env.scope scope own) (hgo : ∀ i ∈ tgIs g, i ∈ own.map (·.2))
    (hg : ∀ (s : Shared) (H : Hp) (C : Addr) (cl : List (Str × Addr)) (fp : List Addr), PG (X.blk s H scope (compEnvC scope cl C X.env) fp) tg (tgR X.K g))
    (ht : ∀ (s : Shared) (H : Hp) (C : Addr) (cl : List (Str × Addr)) (fp : List Addr), PTs (X.blk s H scope (compEnvC scope cl C X.env) fp) ifs (LT X.K X.mg ft))
    (he : ∀ (s : Shared) (H : Hp) (C : Addr) (cl : List (Str × Addr)) (fp : List Addr), JE (X.blk s H scope (compEnvC scope cl C X.env) fp) elt fe) (hs : ∀ x, foldedSetIterable iter X.env x = pure x) :
    JL X (.ListComp elt [⟨tg, iter, ifs, 0⟩] scope pos) (coreL fi g (own.map (·.2)) ft fe) := PE_imp (pe_lc hc hN hi ok hg ht he hs) fun _ _ _ h => ll_lc hgo h
end
end Den

/-! DenG: comprehensions of two clauses, of dicts; locks. -/
namespace Den
open PySem PySem.Spec PyProof.Rows L2
theorem Ex.le' {ι ι1 : List Addr} {H H1 : Hp} (a : Ex ι ι1 H H1) : Ex ι ι1 H H1 := a
theorem Lw.trans {ps ι ι1 ι2 : List Addr} {H H1 H2 : Hp} (l : Lw ps ι ι1 H H1) (m : Lw ps ι1 ι2 H1 H2) : Lw ps ι ι2 H H2 :=
  ⟨l.ex.trans m.ex, fun b o u e => m.frzs b o u (l.frzs b o u e), fun b o e h => m.keep b o (l.keep b o e h) h⟩
theorem Lw.mono {ps qs ι ι1 : List Addr} {H H1 : Hp} (l : Lw ps ι ι1 H H1) (h : ∀ p ∈ qs, p ∈ ps) : Lw qs ι ι1 H H1 := ⟨l.ex, l.frzs, fun b o e m => l.keep b o e (h b m)⟩
section
variable {K : PySem.W.Frag} {mg : Str → Option Value} {ι : List Addr} {H : Hp}
theorem Wk.mono {src : Src} {ps qs ι : List Addr} {H : Hp} {J : L2.It} (w : Wk K mg src ps ι H J) (h : ∀ p ∈ ps, p ∈ qs) : Wk K mg src qs ι H J :=
  ⟨fun i ι st H hi l => w.goes i ι st H hi (l.mono h), fun ι st H l => w.stops ι st H (l.mono h), fun i ι st H x H' hi l => w.yields i ι st H x H' hi (l.mono h)⟩
variable {fi fi1 : Env → Store → Option (Src × Store)} {ft ft1 : Env → Store → Option (Bool × Store)} {fe fk fv : Env → Store → Option (PV × Store)} {g g1 : Tg} {own own1 : List Nat}
abbrev innL (fi1 : Env → Store → Option (Src × Store)) (g1 : Tg) (own1 : List Nat) (ft1 : Env → Store → Option (Bool × Store)) (fe : Env → Store → Option (PV × Store)) : Env → List PV → Store → Option (List PV × Store) :=
  fun e' acc s => (fi1 e' s).bind fun (src1, s2) => compL (bindT g1 (wipe e' own1)) (okG src1.gd) ft1 fe src1.xs acc s2
abbrev coreL2 (fi : Env → Store → Option (Src × Store)) (g : Tg) (own : List Nat) (ft : Env → Store → Option (Bool × Store)) (fi1 : Env → Store → Option (Src × Store)) (g1 : Tg) (own1 : List Nat) (ft1 : Env → Store → Option (Bool × Store)) (fe : Env → Store → Option (PV × Store)) : Env → Store → Option (List PV × Store) :=
  fun env st => (fi env st).bind fun (src, s1) => compL2 (bindT g (wipe env own)) (okG src.gd) ft (innL fi1 g1 own1 ft1 fe) src.xs [] s1
theorem compL2_ok {bind : PV → Option Env} {ok : Store → Bool} {test inner} {xs acc : List PV} {st : Store} {r} (h : compL2 bind ok test inner xs acc st = some r) : ok st = true := by
  cases xs with
  | nil => unfold compL2 at h; split at h <;> first | assumption | cases h
  | cons x xs => unfold compL2 at h; split at h <;> first | assumption | cases h
theorem ll_lc2 (hgo : ∀ i ∈ tgIs g, i ∈ own) (hgo1 : ∀ i ∈ tgIs g1, i ∈ own1) {σ : L2.St} {Q : VK} (h : LL K mg (coreL2 fi g own ft fi1 g1 own1 ft1 fe) σ H Q) :
    tLc2 (LI K mg fi) (tgR K g) (LT K mg ft) (LI K mg fi1) (tgR K g1) (LT K mg ft1) (LE K mg fe) own own1 σ H Q := by
  obtain ⟨ι, env, st, ys, st2, R, E, e, q⟩ := h
  unfold coreL2 at e
  cases h1 : fi env st with
  | none => simp [h1] at e
  | some pr =>
    obtain ⟨src, s1⟩ := pr
    simp only [h1, Option.bind_some] at e
    refine ⟨ι, env, st, src, s1, R, E, h1, fun ι1 J ps H1 l1 R1 hps wk D hD => ?_⟩
    have hn1 := R1.not_mem hD
    have hD0 := l1.absent hD hn1
    have hDp : D ∉ ps := fun z => by
      obtain ⟨_, _, o, e⟩ := hps D z
      rw [hD] at e; cases e
    have o1 : ∀ p ∈ ps, p ∉ ι1 ∧ ∃ o, H1 p = some o := fun p hp => ⟨(hps p hp).2.1, (hps p hp).2.2⟩
    let St (i : Nat) (H : Hp) : Prop := ∃ ι' s acc vs, Le ι1 ι' H1 H ∧ Lw ps ι1 ι' H1 H ∧ (∀ p ∈ ps, p ∉ ι' ∧ ∃ o, H p = some o) ∧ RS K mg ι' s H ∧ D ∉ ι' ∧ H D = some (.lst vs) ∧ RVs K mg ι' H acc vs ∧
      compL2 (bindT g (wipe env own)) (okG src.gd) ft (innL fi1 g1 own1 ft1 fe) (src.xs.drop i) acc s = some (ys, st2)
    refine ⟨fun i m H => m = src.xs.length - i ∧ i ≤ src.xs.length ∧ St i H, ⟨src.xs.length, by simp, Nat.zero_le _, ι1, s1, [], [], Le.new hD, (Le.new hD).lw fun p hp => (o1 p hp).1,
      fun p hp => ⟨(o1 p hp).1, by rw [upd_ne (show p ≠ D from fun z => hDp (by rw [← z]; exact hp))]; exact (o1 p hp).2⟩, R1.new hD, hn1, upd_same, .nil, e⟩, ?_⟩
    rintro i m H ⟨rfl, hi, ι, s, acc, vs, l, lw, ou, R, hn, hd, r, hc⟩
    have hok := compL2_ok hc
    by_cases hlt : i < src.xs.length
    · refine .inr ⟨wk.goes i ι s H hlt lw R hok, St (i + 1), fun H' hN => ⟨src.xs.length - (i + 1), by omega, rfl, hlt, hN⟩, fun x H' y => ?_⟩
      obtain ⟨lY, RY, p, hp, rp⟩ := wk.yields i ι s H x H' hlt lw R hok y
      have ed : src.xs.drop i = p :: src.xs.drop (i + 1) := by
        rw [List.drop_eq_getElem_cons hlt]
        rw [List.getElem?_eq_getElem hlt] at hp
        rw [Option.some.inj hp]
      rw [ed] at hc
      unfold compL2 at hc
      rw [if_pos hok] at hc
      cases hb : bindT g (wipe env own) p with
      | none => simp [hb] at hc
      | some env1 =>
        cases h1 : ft env1 s with
        | none => simp [hb, h1] at hc
        | some pr =>
          obtain ⟨t, s3⟩ := pr
          simp only [hb, h1, Option.bind_some] at hc
          obtain ⟨dY, nY⟩ := lY.stays hn hd
          have wY := lw.step lY fun p hp => (ou p hp).1
          have oY := lY.outs ou
          refine bind_ok (mg := mg) (ι := ι) (((E.le l1.ex).le wY.ex).wipe own) rp hb fun σ2 E2 hw => ⟨?_, ?_⟩
          · rw [hw own hgo, wipe_wipe own own fun _ z => z]
          · refine ⟨ι, env1, s, t, s3, RY, E2, h1, fun ι3 H3 l3 R3 => ?_⟩
            obtain ⟨d3, n3⟩ := l3.stays nY dY
            have w3 := wY.step l3 fun p hp => (oY p hp).1
            have o3 := l3.outs oY
            cases t with
            | false =>
              simp only [Bool.false_eq_true, if_false] at hc ⊢
              exact ⟨ι3, s3, acc, vs, (l.trans lY).trans l3, w3, o3, R3, n3, d3, (r.le lY.ex).le l3.ex, hc⟩
            | true =>
              simp only [if_true] at hc ⊢
              cases h4 : innL fi1 g1 own1 ft1 fe env1 acc s3 with
              | none => simp only [h4, Option.bind_none] at hc; cases hc
              | some pr =>
                obtain ⟨acc', s5⟩ := pr
                simp only [h4, Option.bind_some] at hc
                unfold innL at h4
                cases h5 : fi1 env1 s3 with
                | none => simp only [h5, Option.bind_none] at h4; cases h4
                | some pr =>
                  obtain ⟨src1, s4⟩ := pr
                  simp only [h5, Option.bind_some] at h4
                  refine ⟨ι3, env1, s3, src1, s4, R3, E2.le l3.ex, h5, fun ι4 J1 ps1 H4 l4 R4 hps1 wk1 => ?_⟩
                  obtain ⟨d4, n4⟩ := l4.stays n3 d3
                  have w4 := w3.step l4 fun p hp => (o3 p hp).1
                  have o4 := l4.outs o3
                  have rr : RVs K mg ι4 H4 acc vs := ((r.le lY.ex).le l3.ex).le l4.ex
                  have hDp1 : D ∉ ps1 ++ ps := fun z => by
                    rcases List.mem_append.mp z with z | z
                    · have := (hps1 D z).1
                      rw [d3] at this; cases this
                    · exact hDp z
                  have oo : ∀ p ∈ ps1 ++ ps, p ∉ ι4 ∧ ∃ o, H4 p = some o := fun p hp => by
                    rcases List.mem_append.mp hp with z | z
                    · exact (hps1 p z).2
                    · exact o4 p z
                  refine lc_turns (i0 := 0) (Hb := H1) (ιb := ι1) (Qd := St (i + 1)) hgo1 (wk1.mono (qs := ps1 ++ ps) fun p hp => List.mem_append_left _ hp) ((E2.le l3.ex).le l4.ex) hD hDp1 (fun ι' vs' H' l' R' n' ou' lw' d' r' => ?_)
                    acc vs s4 (Nat.zero_le _) h4 (((l.trans lY).trans l3).trans l4) ⟨⟨⟨[], by simp⟩, fun _ _ z => z, fun _ _ _ z => z, fun _ _ _ z => z⟩, fun _ _ _ z => z, fun _ _ z _ => z⟩ oo R4 n4 d4 rr
                  exact ⟨ι', s5, acc', vs', l', w4.trans (lw'.mono fun p hp => List.mem_append_right _ hp), fun p hp => ou' p (List.mem_append_right _ hp), R', n', d', r', hc⟩
    · have e : i = src.xs.length := by omega
      subst e
      rw [List.drop_length] at hc
      unfold compL2 at hc
      rw [if_pos hok] at hc
      cases hc
      exact .inl ⟨wk.stops ι _ H lw R hok, q ι D vs H (l1.trans l) R hD0 hn hd r⟩

/-! ### dicts -/
theorem RPs.any {κ : Type} [DecidableEq κ] {k : κ} : ∀ {xs : List (κ × PV)} {vs : List (κ × V)}, RPs K mg ι H xs vs → (vs.any fun p => decide (p.1 = k)) = (xs.any fun p => decide (p.1 = k))
  | [], vs, h => by simp only [RPs] at h; subst h; rfl
  | x :: xs, vs, h => by
    simp only [RPs] at h
    obtain ⟨v, r, rfl, _, t⟩ := h
    simp only [List.any_cons, RPs.any t]
theorem RPs.app {κ : Type} : ∀ {xs ys : List (κ × PV)} {vs ws : List (κ × V)}, RPs K mg ι H xs vs → RPs K mg ι H ys ws → RPs K mg ι H (xs ++ ys) (vs ++ ws)
  | [], _, _, _, h, q => by simp only [RPs] at h; subst h; exact q
  | x :: xs, ys, vs, ws, h, q => by
    simp only [RPs] at h
    obtain ⟨v, r, rfl, z, t⟩ := h
    show RPs K mg ι H (x :: (xs ++ ys)) ((x.1, v) :: (r ++ ws))
    simp only [RPs]
    exact ⟨v, r ++ ws, rfl, z, RPs.app t q⟩
theorem RPs.put {k : Key} {x : PV} {v : V} {xs : List (Key × PV)} {vs : List (Key × V)} (h : RPs K mg ι H xs vs) (q : RV K mg ι H x v) : RPs K mg ι H (putP k x xs) (putK vs k v) := by
  unfold putP putK
  rw [h.any (k := k)]
  split
  · rename_i hh
    clear hh
    induction xs generalizing vs with
    | nil => simp only [RPs] at h; subst h; simp [RPs]
    | cons y ys ih =>
      simp only [RPs] at h
      obtain ⟨w, r, rfl, z, t⟩ := h
      simp only [List.map_cons]
      by_cases e : y.1 = k
      · simp only [e, if_true, RPs]
        exact ⟨v, _, rfl, q, ih t⟩
      · simp only [e, if_false, RPs]
        exact ⟨w, _, rfl, z, ih t⟩
  · exact h.app (by simp only [RPs]; exact ⟨v, [], rfl, q, rfl⟩)
theorem keyOf_rv {k : Key} {x : PV} {v : V} (h : keyOf x = some k) (r : RV K mg ι H x v) : v = kV k := by
  unfold keyOf at h
  split at h
  · cases h; exact r
  · cases h; exact r
  · cases h
theorem compD_ok {bind : PV → Option Env} {ok : Store → Bool} {test key val} {xs : List PV} {acc : List (Key × PV)} {st : Store} {r} (h : compD bind ok test key val xs acc st = some r) : ok st = true := by
  cases xs with
  | nil => unfold compD at h; split at h <;> first | assumption | cases h
  | cons x xs => unfold compD at h; split at h <;> first | assumption | cases h
abbrev coreD (fi : Env → Store → Option (Src × Store)) (g : Tg) (own : List Nat) (ft : Env → Store → Option (Bool × Store)) (fk fv : Env → Store → Option (PV × Store)) : Env → Store → Option (List (Key × PV) × Store) :=
  fun env st => (fi env st).bind fun (src, s1) => compD (bindT g (wipe env own)) (okG src.gd) ft fk fv src.xs [] s1
/-- a new dict that the store does not speak of -/
def LD (K : PySem.W.Frag) (mg : Str → Option Value) (f : Env → Store → Option (List (Key × PV) × Store)) : TE := fun σ H Q => ∃ ι env st xs st', RS K mg ι st H ∧ RE K mg ι H env σ ∧ f env st = some (xs, st') ∧
  ∀ ι' D vs H', Le ι ι' H H' → RS K mg ι' st' H' → H D = none → D ∉ ι' → H' D = some (.dK vs) → RPs K mg ι' H' xs vs → Q (.ref D) H'
abbrev JD (X : Cx) (e : Expr) (f : Env → Store → Option (List (Key × PV) × Store)) : Prop := PE X e (LD X.K X.mg f)
theorem ld_dc (hgo : ∀ i ∈ tgIs g, i ∈ own) {σ : L2.St} {Q : VK} (h : LD K mg (coreD fi g own ft fk fv) σ H Q) : tDc (LI K mg fi) (tgR K g) (LT K mg ft) (LE K mg fk) (LE K mg fv) own σ H Q := by
  obtain ⟨ι, env, st, ys, st2, R, E, e, q⟩ := h
  unfold coreD at e
  cases h1 : fi env st with
  | none => simp [h1] at e
  | some pr =>
    obtain ⟨src, s1⟩ := pr
    simp only [h1, Option.bind_some] at e
    refine ⟨ι, env, st, src, s1, R, E, h1, fun ι1 J ps H1 l1 R1 hps wk D hD => ?_⟩
    have hn1 := R1.not_mem hD
    have hD0 := l1.absent hD hn1
    have hDp : D ∉ ps := fun z => by
      obtain ⟨_, _, o, e⟩ := hps D z
      rw [hD] at e; cases e
    have o1 : ∀ p ∈ ps, p ∉ ι1 ∧ ∃ o, H1 p = some o := fun p hp => ⟨(hps p hp).2.1, (hps p hp).2.2⟩
    let St (i : Nat) (H : Hp) : Prop := ∃ ι' s acc vs, Le ι1 ι' H1 H ∧ Lw ps ι1 ι' H1 H ∧ (∀ p ∈ ps, p ∉ ι' ∧ ∃ o, H p = some o) ∧ RS K mg ι' s H ∧ D ∉ ι' ∧ H D = some (.dK vs) ∧ RPs K mg ι' H acc vs ∧
      compD (bindT g (wipe env own)) (okG src.gd) ft fk fv (src.xs.drop i) acc s = some (ys, st2)
    refine ⟨fun i m H => m = src.xs.length - i ∧ i ≤ src.xs.length ∧ St i H, ⟨src.xs.length, by simp, Nat.zero_le _, ι1, s1, [], [], Le.new hD, (Le.new hD).lw fun p hp => (o1 p hp).1,
      fun p hp => ⟨(o1 p hp).1, by rw [upd_ne (show p ≠ D from fun z => hDp (by rw [← z]; exact hp))]; exact (o1 p hp).2⟩, R1.new hD, hn1, upd_same, by simp only [RPs], e⟩, ?_⟩
    rintro i m H ⟨rfl, hi, ι, s, acc, vs, l, lw, ou, R, hn, hd, r, hc⟩
    have hok := compD_ok hc
    by_cases hlt : i < src.xs.length
    · refine .inr ⟨wk.goes i ι s H hlt lw R hok, St (i + 1), fun H' hN => ⟨src.xs.length - (i + 1), by omega, rfl, hlt, hN⟩, fun x H' y => ?_⟩
      obtain ⟨lY, RY, p, hp, rp⟩ := wk.yields i ι s H x H' hlt lw R hok y
      have ed : src.xs.drop i = p :: src.xs.drop (i + 1) := by
        rw [List.drop_eq_getElem_cons hlt]
        rw [List.getElem?_eq_getElem hlt] at hp
        rw [Option.some.inj hp]
      rw [ed] at hc
      unfold compD at hc
      rw [if_pos hok] at hc
      cases hb : bindT g (wipe env own) p with
      | none => simp [hb] at hc
      | some env1 =>
        cases h1 : ft env1 s with
        | none => simp [hb, h1] at hc
        | some pr =>
          obtain ⟨t, s3⟩ := pr
          simp only [hb, h1, Option.bind_some] at hc
          obtain ⟨dY, nY⟩ := lY.stays hn hd
          have wY := lw.step lY fun p hp => (ou p hp).1
          have oY := lY.outs ou
          refine bind_ok (mg := mg) (ι := ι) (((E.le l1.ex).le wY.ex).wipe own) rp hb fun σ2 E2 hw => ⟨?_, ?_⟩
          · rw [hw own hgo, wipe_wipe own own fun _ z => z]
          · refine ⟨ι, env1, s, t, s3, RY, E2, h1, fun ι3 H3 l3 R3 => ?_⟩
            obtain ⟨d3, n3⟩ := l3.stays nY dY
            have w3 := wY.step l3 fun p hp => (oY p hp).1
            have o3 := l3.outs oY
            cases t with
            | false =>
              simp only [Bool.false_eq_true, if_false] at hc ⊢
              exact ⟨ι3, s3, acc, vs, (l.trans lY).trans l3, w3, o3, R3, n3, d3, (r.le lY.ex).le l3.ex, hc⟩
            | true =>
              simp only [if_true] at hc ⊢
              cases h4 : fk env1 s3 with
              | none => simp [h4] at hc
              | some pr =>
                obtain ⟨kx, s4⟩ := pr
                cases h5 : fv env1 s4 with
                | none => simp [h4, h5] at hc
                | some pr =>
                  obtain ⟨vx, s5⟩ := pr
                  cases h6 : keyOf kx with
                  | none => simp [h4, h5, h6] at hc
                  | some k =>
                    simp only [h4, h5, h6, Option.bind_some] at hc
                    split at hc
                    · rename_i hz
                      refine ⟨ι3, env1, s3, kx, s4, R3, E2.le l3.ex, h4, fun ι4 wk4 H4 l4 R4 r4 => ?_⟩
                      obtain ⟨d4, n4⟩ := l4.stays n3 d3
                      have w4 := w3.step l4 fun p hp => (o3 p hp).1
                      have o4 := l4.outs o3
                      refine ⟨ι4, env1, s4, vx, s5, R4, (E2.le l3.ex).le l4.ex, h5, fun ι5 wv H5 l5 R5 r5 => ?_⟩
                      obtain ⟨d5, n5⟩ := l5.stays n4 d4
                      have w5 := w4.step l5 fun p hp => (o4 p hp).1
                      have o5 := l5.outs o4
                      have rr : RPs K mg ι5 H5 acc vs := (((r.le lY.ex).le l3.ex).le l4.ex).le l5.ex
                      refine ⟨vs, k, keyOf_rv h6 r4, d5, lt_line (by rw [← rr.length]; exact hz), ι5, s5, putP k vx acc, putK vs k wv, ?_, w5.off hDp d5 trivial, fun p hp => ⟨(o5 p hp).1, by rw [upd_ne (show p ≠ D from fun z => hDp (by rw [← z]; exact hp))]; exact (o5 p hp).2⟩, R5.off n5 d5 trivial, n5, upd_same, ?_, hc⟩
                      · exact ((((l.trans lY).trans l3).trans l4).trans l5).off hD
                      · exact (rr.le (Ex.off d5 trivial)).put (r5.le (Ex.off d5 trivial))
                    · cases hc
    · have e : i = src.xs.length := by omega
      subst e
      rw [List.drop_length] at hc
      unfold compD at hc
      rw [if_pos hok] at hc
      cases hc
      exact .inl ⟨wk.stops ι _ H lw R hok, q ι D vs H (l1.trans l) R hD0 hn hd r⟩
end
end Den

/-! DenH: locks; statements. -/
namespace Den
open PySem PySem.Spec PyProof.Rows L2
section
variable {K : PySem.W.Frag} {mg : Str → Option Value} {ι ι' : List Addr} {H H' : Hp} {st st' : Store}
/-! ### locks -/
theorem lock_ex {d : Addr} {u : HO} {o : HO} (h : H d = some u) (hu : (∀ xs, u ≠ .tup xs) ∧ (∀ ob xs, u ≠ .frz ob (.tup xs)) ∧ ∀ ob xs, u ≠ .frz ob (.lst xs)) : Ex ι ι H (L2.upd H d o) :=
  ⟨⟨[], by simp⟩, fun b xs e => by rw [upd_ne (fun z => by subst z; rw [h] at e; cases e; exact hu.1 _ rfl)]; exact e,
    fun b w xs e => by rw [upd_ne (fun z => by subst z; rw [h] at e; cases e; exact hu.2.1 _ _ rfl)]; exact e, fun b w xs e => by rw [upd_ne (fun z => by subst z; rw [h] at e; cases e; exact hu.2.2 _ _ rfl)]; exact e⟩
structure Lkd (K : PySem.W.Frag) (mg : Str → Option Value) (ι : List Addr) (st : Store) (H : Hp) (n : Nat) (d : Addr) (kw : List (Key × V)) : Prop where
  at_ : ι[n]? = some d
  hd : H d = some (.dK kw)
  rs : ∀ od, RS K mg ι (setLk true st (some n)) (L2.upd H d (.frz od (.dK kw)))
  ex : ∀ od, Ex ι ι H (L2.upd H d (.frz od (.dK kw)))
theorem RS.lock (R : RS K mg ι st H) {n : Nat} {kvs : List (Key × PV)} (h : st[n]? = some (.dic false kvs)) : ∃ d kw, Lkd K mg ι st H n d kw := by
  obtain ⟨d, hd, kw, e, r⟩ := R.ob n _ h
  have ex : ∀ od, Ex ι ι H (L2.upd H d (.frz od (.dK kw))) := fun od => lock_ex e ⟨(fun _ z => nomatch z), (fun _ _ z => nomatch z), (fun _ _ z => nomatch z)⟩
  refine ⟨d, kw, hd, e, fun od => ?_, ex⟩
  have es : setLk true st (some n) = st.set n (.dic true kvs) := by simp [setLk, h]
  rw [es]
  exact R.set hd (ex od) ⟨od, kw, upd_same, r.le (ex od)⟩
theorem Lkd.un {n : Nat} {d : Addr} {kw : List (Key × V)} (L : Lkd K mg ι st H n d kw) {od : Obj} (l : Le ι ι' (L2.upd H d (.frz od (.dK kw))) H') (R : RS K mg ι' st' H') :
    H' d = some (.frz od (.dK kw)) ∧ Le ι ι' H (L2.upd H' d (.dK kw)) ∧ RS K mg ι' (setLk false st' (some n)) (L2.upd H' d (.dK kw)) ∧ Ex ι' ι' H' (L2.upd H' d (.dK kw)) := by
  have hd' := l.frzs d _ _ upd_same
  have ex : Ex ι' ι' H' (L2.upd H' d (.dK kw)) := lock_ex hd' ⟨(fun _ z => nomatch z), (fun _ _ z => nomatch z), (fun _ _ z => nomatch z)⟩
  refine ⟨hd', ?_, ?_, ex⟩
  · have dm : d ∈ ι := List.mem_of_getElem? L.at_
    refine ⟨l.pre, fun a hm => ?_, fun b xs e => ?_, fun b o u e => ?_, fun b o e hn => ?_⟩
    · rcases l.fresh a hm with z | z
      · exact .inl z
      · by_cases ha : a = d
        · subst ha; exact .inl dm
        · rw [upd_ne ha] at z; exact .inr z
    · have hb : b ≠ d := fun z => by subst z; rw [L.hd] at e; cases e
      rw [upd_ne hb]
      exact l.tups b xs (by rw [upd_ne hb]; exact e)
    · have hb : b ≠ d := fun z => by subst z; rw [L.hd] at e; cases e
      rw [upd_ne hb]
      exact l.frzs b o u (by rw [upd_ne hb]; exact e)
    · have hb : b ≠ d := fun z => hn (by rw [z]; exact dm)
      rw [upd_ne hb]
      exact l.keep b o (by rw [upd_ne hb]; exact e) hn
  · have hp : ι'[n]? = some d := l.get L.at_
    have hn : n < st'.length := by rw [← R.len]; exact (List.getElem?_eq_some_iff.mp hp).1
    obtain ⟨a, ha, r⟩ := R.ob n _ (List.getElem?_eq_getElem hn)
    have : a = d := Option.some.inj (ha.symm.trans hp)
    subst this
    have key : ∃ kvs, st'[n] = .dic true kvs ∧ RPs K mg ι' H' kvs kw := by
      cases e : st'[n] with
      | lst xs => rw [e] at r; obtain ⟨vs, q, _⟩ := r; rw [hd'] at q; cases q
      | ins C fs => rw [e] at r; obtain ⟨A, dx, fw, _, q, _⟩ := r; rw [hd'] at q; cases q
      | fls xs => rw [e] at r; obtain ⟨o, vs, q, _⟩ := r; rw [hd'] at q; cases q
      | dic lk kvs =>
        cases lk with
        | false => rw [e] at r; obtain ⟨w, q, _⟩ := r; rw [hd'] at q; cases q
        | true =>
          rw [e] at r
          obtain ⟨o, w, q, rr⟩ := r
          rw [hd'] at q
          cases q
          exact ⟨kvs, rfl, rr⟩
    obtain ⟨kvs, e, rr⟩ := key
    have es : setLk false st' (some n) = st'.set n (.dic false kvs) := by simp [setLk, List.getElem?_eq_getElem hn, e]
    rw [es]
    exact R.set hp ex ⟨kw, upd_same, rr.le ex⟩
theorem lkOf_some {t : It} {env : Env} {n : Nat} (h : lkOf t env st = some n) : ∃ kvs, st[n]? = some (.dic false kvs) := by
  unfold lkOf at h
  split at h
  · split at h
    · split at h
      · rename_i kvs e
        cases h
        exact ⟨kvs, e⟩
      · cases h
    · cases h
  · cases h
theorem setLk_none (b : Bool) : setLk b st none = st := rfl
abbrev lkdL (t : It) (f : Env → Store → Option (List PV × Store)) : Env → Store → Option (List PV × Store) := fun env st => (f env (setLk true st (lkOf t env st))).bind fun (ys, s2) => some (ys, setLk false s2 (lkOf t env st))
theorem ll_lock {t : It} {f : Env → Store → Option (List PV × Store)} {σ : L2.St} {Q : VK} (h : LL K mg (lkdL t f) σ H Q) : LL K mg f σ H Q ∨ tLockE (LL K mg f) σ H Q := by
  obtain ⟨ι, env, st, ys, st2, R, E, e, q⟩ := h
  unfold lkdL at e
  cases hl : lkOf t env st with
  | none =>
    simp only [hl, setLk_none] at e
    cases h1 : f env st with
    | none => simp [h1] at e
    | some pr =>
      obtain ⟨zs, s2⟩ := pr
      simp only [h1, Option.bind_some, Option.some.injEq, Prod.mk.injEq] at e
      obtain ⟨rfl, rfl⟩ := e
      exact .inl ⟨ι, env, st, zs, s2, R, E, h1, q⟩
  | some n =>
    simp only [hl] at e
    obtain ⟨kvs, hk⟩ := lkOf_some hl
    obtain ⟨d, kw, L⟩ := R.lock hk
    cases h1 : f env (setLk true st (some n)) with
    | none => simp [h1] at e
    | some pr =>
      obtain ⟨zs, s2⟩ := pr
      simp only [h1, Option.bind_some, Option.some.injEq, Prod.mk.injEq] at e
      obtain ⟨rfl, rfl⟩ := e
      refine .inr ⟨d, .dK kw, L.hd, trivial, fun od => ⟨ι, env, _, zs, s2, L.rs od, E.le (L.ex od), h1, fun ι' D vs H' l' R' h0 hn hD r' => ?_⟩⟩
      obtain ⟨h2, l2, R2, x2⟩ := L.un l' R'
      have hDd : D ≠ d := fun z => by subst z; rw [upd_same] at h0; cases h0
      rw [upd_ne hDd] at h0
      exact ⟨h2, q ι' D vs _ l2 R2 h0 hn (by rw [upd_ne hDd]; exact hD) (r'.le x2)⟩
abbrev lkdD (t : It) (f : Env → Store → Option (List (Key × PV) × Store)) : Env → Store → Option (List (Key × PV) × Store) := fun env st => (f env (setLk true st (lkOf t env st))).bind fun (ys, s2) => some (ys, setLk false s2 (lkOf t env st))
theorem ld_lock {t : It} {f : Env → Store → Option (List (Key × PV) × Store)} {σ : L2.St} {Q : VK} (h : LD K mg (lkdD t f) σ H Q) : LD K mg f σ H Q ∨ tLockE (LD K mg f) σ H Q := by
  obtain ⟨ι, env, st, ys, st2, R, E, e, q⟩ := h
  unfold lkdD at e
  cases hl : lkOf t env st with
  | none =>
    simp only [hl, setLk_none] at e
    cases h1 : f env st with
    | none => simp [h1] at e
    | some pr =>
      obtain ⟨zs, s2⟩ := pr
      simp only [h1, Option.bind_some, Option.some.injEq, Prod.mk.injEq] at e
      obtain ⟨rfl, rfl⟩ := e
      exact .inl ⟨ι, env, st, zs, s2, R, E, h1, q⟩
  | some n =>
    simp only [hl] at e
    obtain ⟨kvs, hk⟩ := lkOf_some hl
    obtain ⟨d, kw, L⟩ := R.lock hk
    cases h1 : f env (setLk true st (some n)) with
    | none => simp [h1] at e
    | some pr =>
      obtain ⟨zs, s2⟩ := pr
      simp only [h1, Option.bind_some, Option.some.injEq, Prod.mk.injEq] at e
      obtain ⟨rfl, rfl⟩ := e
      refine .inr ⟨d, .dK kw, L.hd, trivial, fun od => ⟨ι, env, _, zs, s2, L.rs od, E.le (L.ex od), h1, fun ι' D vs H' l' R' h0 hn hD r' => ?_⟩⟩
      obtain ⟨h2, l2, R2, x2⟩ := L.un l' R'
      have hDd : D ≠ d := fun z => by subst z; rw [upd_same] at h0; cases h0
      rw [upd_ne hDd] at h0
      exact ⟨h2, q ι' D vs _ l2 R2 h0 hn (by rw [upd_ne hDd]; exact hD) (r'.le x2)⟩
end
theorem PE_or {X : Cx} {e : Expr} {t t' : TE} (h : PE X e t) (h' : PE X e t') : PE X e (fun σ H Q => t σ H Q ∨ t' σ H Q) := ⟨fun pins s σ H Q I q => q.elim (h.run pins s σ H Q I) (h'.run pins s σ H Q I)⟩
theorem PS_or {X : Cx} {e : Stmt} {t t' : TS} (h : PS X e t) (h' : PS X e t') : PS X e (fun D σ H => t D σ H ∨ t' D σ H) := ⟨fun pins s σ H D I q => q.elim (h.run pins s σ H D I) (h'.run pins s σ H D I)⟩
theorem jl_lock {X : Cx} {e : Expr} {f} (t : It) (h : JL X e f) : JL X e (lkdL t f) := PE_imp (PE_or h (pe_lock h)) fun _ _ _ q => ll_lock q
theorem jd_lock {X : Cx} {e : Expr} {f} (t : It) (h : JD X e f) : JD X e (lkdD t f) := PE_imp (PE_or h (pe_lock h)) fun _ _ _ q => ld_lock q
/-- a new dict, kept -/
theorem je_dic {X : Cx} {e : Expr} {f : Env → Store → Option (List (Key × PV) × Store)} (h : JD X e f) : JE X e (fun env st => (f env st).bind fun (kvs, s1) => some (.ref s1.length, s1 ++ [.dic false kvs])) := PE_imp h fun σ H Q ⟨ι, env, st, z, st', R, E, e, q⟩ => by
  cases h1 : f env st with
  | none => simp [h1] at e
  | some p =>
    obtain ⟨xs, s1⟩ := p
    simp only [h1, Option.bind_some, Option.some.injEq, Prod.mk.injEq] at e
    obtain ⟨rfl, rfl⟩ := e
    refine ⟨ι, env, st, xs, s1, R, E, h1, fun ι1 D vs H1 l1 R1 h0 hn hD r1 => ?_⟩
    refine q (ι1 ++ [D]) (.ref D) H1 (l1.take h0) (R1.take hn ?_) ?_
    · exact ⟨vs, hD, r1.le (Ex.more [D])⟩
    · simp only [RV]
      exact ⟨D, by rw [List.getElem?_append_right (by rw [R1.len]; exact Nat.le_refl _), R1.len, Nat.sub_self]; rfl, rfl⟩

/-! ### statements -/
section
variable (K : PySem.W.Frag) (mg : Str → Option Value)
/-- what is wanted behind -/
def FP (ι : List Addr) (H : Hp) (D : Ends) (env' : Env) (st' : Store) : Flow → Prop
  | .nx => ∀ ι' σ' H', Le ι ι' H H' → RS K mg ι' st' H' → RE K mg ι' H' env' σ' → D.nx σ' H'
  | .brk => ∀ ι' σ' H', Le ι ι' H H' → RS K mg ι' st' H' → RE K mg ι' H' env' σ' → D.bk σ' H'
  | .cont => ∀ ι' σ' H', Le ι ι' H H' → RS K mg ι' st' H' → RE K mg ι' H' env' σ' → D.ct σ' H'
  | .ret v => ∀ ι' u H', Le ι ι' H H' → RS K mg ι' st' H' → RV K mg ι' H' v u → D.rt u H'
def LS (f : Env → Store → Option (Flow × Env × Store)) : TS := fun D σ H => ∃ ι env st r env' st', RS K mg ι st H ∧ RE K mg ι H env σ ∧ f env st = some (r, env', st') ∧ FP K mg ι H D env' st' r
end
abbrev JS (X : Cx) (s : Stmt) (f : Env → Store → Option (Flow × Env × Store)) : Prop := PS X s (LS X.K X.mg f)
abbrev JSs (X : Cx) (s : List Stmt) (f : Env → Store → Option (Flow × Env × Store)) : Prop := PSs X s (LS X.K X.mg f)
section
variable {K : PySem.W.Frag} {mg : Str → Option Value} {ι ι' : List Addr} {H H' : Hp} {st st' : Store}
theorem FP.le {D : Ends} {e : Env} (l : Le ι ι' H H') : ∀ {r : Flow}, FP K mg ι H D e st r → FP K mg ι' H' D e st r
  | .nx, h => fun ι2 σ2 H2 l2 => h ι2 σ2 H2 (l.trans l2)
  | .brk, h => fun ι2 σ2 H2 l2 => h ι2 σ2 H2 (l.trans l2)
  | .cont, h => fun ι2 σ2 H2 l2 => h ι2 σ2 H2 (l.trans l2)
  | .ret v, h => fun ι2 u H2 l2 => h ι2 u H2 (l.trans l2)
end
section
variable {X : Cx} {s : Stmt} {rest : List Stmt} {fa fb : Env → Store → Option (Flow × Env × Store)} {e : Expr} {f : Env → Store → Option (PV × Store)} {pos : Pos}
theorem jss_nil : JSs X [] (fun env st => some (.nx, env, st)) := PSs_imp pss_nil fun D σ H ⟨ι, env, st, r, env', st', R, E, e, q⟩ => by
  cases e
  exact q ι σ H .refl R E
abbrev fSeq (fa fb : Env → Store → Option (Flow × Env × Store)) : Env → Store → Option (Flow × Env × Store) := fun env st => (fa env st).bind fun r => match r with
    | (.nx, e1, s1) => fb e1 s1
    | r => some r
theorem jss_cons (h : JS X s fa) (h' : JSs X rest fb) : JSs X (s :: rest) (fSeq fa fb) := PSs_imp (pss_cons h h') fun D σ H ⟨ι, env, st, r, env', st', R, E, e, q⟩ => by
  unfold fSeq at e
  cases h1 : fa env st with
  | none => simp [h1] at e
  | some p =>
    obtain ⟨r1, e1, s1⟩ := p
    simp only [h1, Option.bind_some] at e
    cases r1 with
    | nx =>
      simp only at e
      exact ⟨ι, env, st, .nx, e1, s1, R, E, h1, fun ι1 σ1 H1 l1 R1 E1 => ⟨ι1, e1, s1, r, env', st', R1, E1, e, q.le l1⟩⟩
    | brk => cases e; exact ⟨ι, env, st, .brk, _, _, R, E, h1, q⟩
    | cont => cases e; exact ⟨ι, env, st, .cont, _, _, R, E, h1, q⟩
    | ret v => cases e; exact ⟨ι, env, st, .ret v, _, _, R, E, h1, q⟩
theorem js_dead : JS X s (fun _ _ => none) := PS_imp ps_never fun D σ H ⟨ι, env, st, r, env', st', R, E, e, q⟩ => by cases e
theorem js_pass : JS X (.Pass pos) (fun env st => some (.nx, env, st)) := PS_imp ps_pass fun D σ H ⟨ι, env, st, r, env', st', R, E, e, q⟩ => by
  cases e; exact q ι σ H .refl R E
theorem js_brk : JS X (.Break pos) (fun env st => some (.brk, env, st)) := PS_imp ps_break fun D σ H ⟨ι, env, st, r, env', st', R, E, e, q⟩ => by
  cases e; exact q ι σ H .refl R E
theorem js_cont : JS X (.Continue pos) (fun env st => some (.cont, env, st)) := PS_imp ps_continue fun D σ H ⟨ι, env, st, r, env', st', R, E, e, q⟩ => by
  cases e; exact q ι σ H .refl R E
theorem js_ex (he : JE X e f) (hs : swapsWith e none pos.line X.env = pure false) : JS X (.Expr e pos) (fun env st => (f env st).bind fun (_, s1) => some (.nx, env, s1)) := PS_imp (ps_expr he hs) fun D σ H ⟨ι, env, st, r, env', st', R, E, e, q⟩ => by
  cases h1 : f env st with
  | none => simp [h1] at e
  | some p =>
    obtain ⟨v, s1⟩ := p
    simp only [h1, Option.bind_some, Option.some.injEq, Prod.mk.injEq] at e
    obtain ⟨rfl, rfl, rfl⟩ := e
    exact ⟨ι, env, st, v, s1, R, E, h1, fun ι1 u H1 l1 R1 r1 => q ι1 σ H1 l1 R1 (E.le l1.ex)⟩
theorem js_ret (he : JE X e f) : JS X (.Return (some e) pos) (fun env st => (f env st).bind fun (v, s1) => some (.ret v, env, s1)) := PS_imp (ps_ret he) fun D σ H ⟨ι, env, st, r, env', st', R, E, e, q⟩ => by
  cases h1 : f env st with
  | none => simp [h1] at e
  | some p =>
    obtain ⟨v, s1⟩ := p
    simp only [h1, Option.bind_some, Option.some.injEq, Prod.mk.injEq] at e
    obtain ⟨rfl, rfl, rfl⟩ := e
    exact ⟨ι, env, st, v, s1, R, E, h1, fun ι1 u H1 l1 R1 r1 => q ι1 u H1 l1 R1 r1⟩
theorem js_ite {c : Expr} {a b : List Stmt} (hc : JT X c fun env st => toB (f env st)) (ha : JSs X a fa) (hb : JSs X b fb) : JS X (.If c a b pos) (fun env st => (toB (f env st)).bind fun (t, s1) => if t then fa env s1 else fb env s1) :=
  PS_imp (ps_if hc ha hb) fun D σ H ⟨ι, env, st, r, env', st', R, E, e, q⟩ => by
  cases h1 : toB (f env st) with
  | none => simp [h1] at e
  | some p =>
    obtain ⟨t, s1⟩ := p
    simp only [h1, Option.bind_some] at e
    refine ⟨ι, env, st, t, s1, R, E, h1, fun ι1 H1 l1 R1 => ?_⟩
    cases t with
    | true => exact ⟨ι1, env, s1, r, env', st', R1, E.le l1.ex, e, q.le l1⟩
    | false => exact ⟨ι1, env, s1, r, env', st', R1, E.le l1.ex, e, q.le l1⟩
/-- a while, by the turns that its test and body take -/
theorem js_whl {c : Expr} {b : List Stmt} {n : Nat} (hp : PassesOwn (model X.prog X.w) X.A X.env X.xe) (hc : JT X c fun env st => toB (f env st)) (hb : JSs X b fb) : JS X (.While c b [] pos) (fun env st => whlL (fun e s => toB (f e s)) fb n env st) :=
  PS_imp (ps_while hp hc hb) fun D σ0 H0 ⟨ι0, env0, st0, r, env', st', R0, E0, e0, q0⟩ => by
  refine ⟨fun m σ H => ∃ ι env st, Le ι0 ι H0 H ∧ RS X.K X.mg ι st H ∧ RE X.K X.mg ι H env σ ∧ whlL (fun e s => toB (f e s)) fb m env st = some (r, env', st'), ⟨n, ι0, env0, st0, .refl, R0, E0, e0⟩, ?_⟩
  rintro m σ H ⟨ι, env, st, l, R, E, e⟩
  cases m with
  | zero => cases e
  | succ m =>
    unfold whlL at e
    cases h1 : toB (f env st) with
    | none => simp [h1] at e
    | some p =>
      obtain ⟨t, s1⟩ := p
      simp only [h1, Option.bind_some] at e
      refine ⟨ι, env, st, t, s1, R, E, h1, fun ι1 H1 l1 R1 => ?_⟩
      cases t with
      | false =>
        simp only [Bool.false_eq_true, if_false, Option.some.injEq, Prod.mk.injEq] at e ⊢
        obtain ⟨rfl, rfl, rfl⟩ := e
        exact q0 ι1 σ H1 (l.trans l1) R1 (E.le l1.ex)
      | true =>
        simp only [if_true] at e ⊢
        refine ⟨fun σ' H' => ∃ ι env st, Le ι0 ι H0 H' ∧ RS X.K X.mg ι st H' ∧ RE X.K X.mg ι H' env σ' ∧ whlL (fun e s => toB (f e s)) fb m env st = some (r, env', st'), fun σ' H' hN => ⟨m, Nat.lt_succ_self _, hN⟩, ?_⟩
        cases h2 : fb env s1 with
        | none => simp [h2] at e
        | some p =>
          obtain ⟨r2, e2, s2⟩ := p
          simp only [h2, Option.bind_some] at e
          refine ⟨ι1, env, s1, r2, e2, s2, R1, E.le l1.ex, h2, ?_⟩
          cases r2 with
          | nx => exact fun ι2 σ2 H2 l2 R2 E2 => ⟨ι2, e2, s2, (l.trans l1).trans l2, R2, E2, e⟩
          | cont => exact fun ι2 σ2 H2 l2 R2 E2 => ⟨ι2, e2, s2, (l.trans l1).trans l2, R2, E2, e⟩
          | brk =>
            simp only [Option.some.injEq, Prod.mk.injEq] at e
            obtain ⟨rfl, rfl, rfl⟩ := e
            exact fun ι2 σ2 H2 l2 R2 E2 => q0 ι2 σ2 H2 ((l.trans l1).trans l2) R2 E2
          | ret v =>
            simp only [Option.some.injEq, Prod.mk.injEq] at e
            obtain ⟨rfl, rfl, rfl⟩ := e
            exact fun ι2 u H2 l2 R2 r2 => q0 ι2 u H2 ((l.trans l1).trans l2) R2 r2
/-- a for -/
theorem forL_ok {bind : Env → PV → Option Env} {ok : Store → Bool} {body} {xs : List PV} {env : Env} {st : Store} {r} (h : forL bind ok body xs env st = some r) : ok st = true := by
  cases xs with
  | nil => unfold forL at h; split at h <;> first | assumption | cases h
  | cons x xs => unfold forL at h; split at h <;> first | assumption | cases h
abbrev coreF (fi : Env → Store → Option (Src × Store)) (g : Tg) (fb : Env → Store → Option (Flow × Env × Store)) : Env → Store → Option (Flow × Env × Store) :=
  fun env st => (fi env st).bind fun (src, s1) => forL (fun e x => bindT g e x) (okG src.gd) fb src.xs env s1
theorem js_for {tg iter : Expr} {b : List Stmt} {fi : Env → Store → Option (Src × Store)} {g : Tg} (hp : PassesOwn (model X.prog X.w) X.A X.env X.xe) (hc : X.calm = true) (hi : JI X tg iter fi) (hg : PG X tg (tgR X.K g)) (hb : JSs X b fb) (hs : ∀ x, foldedSetIterable iter X.env x = pure x) :
    JS X (.For tg iter b [] pos) (coreF fi g fb) := PS_imp (ps_for hp hc hi hg hb hs) fun D σ H ⟨ι, env, st, r, env', st', R, E, e, q⟩ => by
  unfold coreF at e
  cases h1 : fi env st with
  | none => simp [h1] at e
  | some pr =>
    obtain ⟨src, s1⟩ := pr
    simp only [h1, Option.bind_some] at e
    refine ⟨ι, env, st, src, s1, R, E, h1, fun ι1 J ps H1 l1 R1 hps wk => ?_⟩
    have q1 := q.le l1
    have o1 : ∀ p ∈ ps, p ∉ ι1 ∧ ∃ o, H1 p = some o := fun p hp => ⟨(hps p hp).2.1, (hps p hp).2.2⟩
    let St (i : Nat) (σ : L2.St) (H : Hp) : Prop := ∃ ι env s, Le ι1 ι H1 H ∧ (∀ p ∈ ps, p ∉ ι ∧ ∃ o, H p = some o) ∧ RS X.K X.mg ι s H ∧ RE X.K X.mg ι H env σ ∧ forL (fun e x => bindT g e x) (okG src.gd) fb (src.xs.drop i) env s = some (r, env', st')
    refine ⟨fun i m σ H => m = src.xs.length - i ∧ i ≤ src.xs.length ∧ St i σ H, ⟨src.xs.length, by simp, Nat.zero_le _, ι1, env, s1, .refl, o1, R1, E.le l1.ex, e⟩, ?_⟩
    rintro i m σ H ⟨rfl, hi, ι, env, s, l, ou, R, E, hc⟩
    have hok := forL_ok hc
    have lw := l.lw (ps := ps) fun p hp => (o1 p hp).1
    by_cases hlt : i < src.xs.length
    · refine .inr ⟨wk.goes i ι s H hlt lw R hok, St (i + 1), fun σ' H' hN => ⟨src.xs.length - (i + 1), by omega, rfl, hlt, hN⟩, fun x H' y => ?_⟩
      obtain ⟨lY, RY, p, hp, rp⟩ := wk.yields i ι s H x H' hlt lw R hok y
      have ed : src.xs.drop i = p :: src.xs.drop (i + 1) := by
        rw [List.drop_eq_getElem_cons hlt]
        rw [List.getElem?_eq_getElem hlt] at hp
        rw [Option.some.inj hp]
      rw [ed] at hc
      unfold forL at hc
      rw [if_pos hok] at hc
      have oY := lY.outs ou
      cases hb : bindT g env p with
      | none => simp [hb] at hc
      | some env1 =>
        cases h2 : fb env1 s with
        | none => simp [hb, h2] at hc
        | some pr =>
          obtain ⟨r2, e2, s2⟩ := pr
          simp only [hb, h2, Option.bind_some] at hc
          refine bind_ok (mg := X.mg) (ι := ι) (E.le lY.ex) rp hb fun σ2 E2 _ => ?_
          refine ⟨ι, env1, s, r2, e2, s2, RY, E2, h2, ?_⟩
          cases r2 with
          | nx => exact fun ι3 σ3 H3 l3 R3 E3 => ⟨ι3, e2, s2, (l.trans lY).trans l3, l3.outs oY, R3, E3, hc⟩
          | cont => exact fun ι3 σ3 H3 l3 R3 E3 => ⟨ι3, e2, s2, (l.trans lY).trans l3, l3.outs oY, R3, E3, hc⟩
          | brk =>
            simp only [Option.some.injEq, Prod.mk.injEq] at hc
            obtain ⟨rfl, rfl, rfl⟩ := hc
            exact fun ι3 σ3 H3 l3 R3 E3 => q1 ι3 σ3 H3 ((l.trans lY).trans l3) R3 E3
          | ret v =>
            simp only [Option.some.injEq, Prod.mk.injEq] at hc
            obtain ⟨rfl, rfl, rfl⟩ := hc
            exact fun ι3 u H3 l3 R3 r3 => q1 ι3 u H3 ((l.trans lY).trans l3) R3 r3
    · have ei : i = src.xs.length := by omega
      subst ei
      rw [List.drop_length] at hc
      unfold forL at hc
      rw [if_pos hok] at hc
      cases hc
      exact .inl ⟨wk.stops ι _ H lw R hok, q1 ι σ H l R E⟩
abbrev lkdS (t : It) (f : Env → Store → Option (Flow × Env × Store)) : Env → Store → Option (Flow × Env × Store) := fun env st => (f env (setLk true st (lkOf t env st))).bind fun (r, e2, s2) => some (r, e2, setLk false s2 (lkOf t env st))
theorem ls_lock {K : PySem.W.Frag} {mg : Str → Option Value} {t : It} {f : Env → Store → Option (Flow × Env × Store)} {D : Ends} {σ : L2.St} {H : Hp} (h : LS K mg (lkdS t f) D σ H) : LS K mg f D σ H ∨ tLock (LS K mg f) D σ H := by
  obtain ⟨ι, env, st, r, env', st', R, E, e, q⟩ := h
  unfold lkdS at e
  cases hl : lkOf t env st with
  | none =>
    simp only [hl, setLk_none] at e
    cases h1 : f env st with
    | none => simp [h1] at e
    | some pr =>
      obtain ⟨r1, e1, s2⟩ := pr
      simp only [h1, Option.bind_some, Option.some.injEq, Prod.mk.injEq] at e
      obtain ⟨rfl, rfl, rfl⟩ := e
      exact .inl ⟨ι, env, st, _, _, s2, R, E, h1, q⟩
  | some n =>
    simp only [hl] at e
    obtain ⟨kvs, hk⟩ := lkOf_some hl
    obtain ⟨d, kw, L⟩ := R.lock hk
    cases h1 : f env (setLk true st (some n)) with
    | none => simp [h1] at e
    | some pr =>
      obtain ⟨r1, e1, s2⟩ := pr
      simp only [h1, Option.bind_some, Option.some.injEq, Prod.mk.injEq] at e
      obtain ⟨rfl, rfl, rfl⟩ := e
      refine .inr ⟨d, .dK kw, L.hd, trivial, fun od => ⟨ι, env, _, _, _, s2, L.rs od, E.le (L.ex od), h1, ?_⟩⟩
      cases r1 with
      | nx => exact fun ι' σ' H' l' R' E' => let ⟨h2, l2, R2, x2⟩ := L.un l' R'; ⟨h2, q ι' σ' _ l2 R2 (E'.le x2)⟩
      | brk => exact fun ι' σ' H' l' R' E' => let ⟨h2, l2, R2, x2⟩ := L.un l' R'; ⟨h2, q ι' σ' _ l2 R2 (E'.le x2)⟩
      | cont => exact fun ι' σ' H' l' R' E' => let ⟨h2, l2, R2, x2⟩ := L.un l' R'; ⟨h2, q ι' σ' _ l2 R2 (E'.le x2)⟩
      | ret v => exact fun ι' u H' l' R' r' => let ⟨h2, l2, R2, x2⟩ := L.un l' R'; ⟨h2, q ι' u _ l2 R2 (r'.le x2)⟩
theorem js_lock {f : Env → Store → Option (Flow × Env × Store)} (t : It) (h : JS X s f) : JS X s (lkdS t f) := PS_imp (PS_or h (ps_lock h)) fun _ _ _ q => ls_lock q
end
end Den

/-! DenZ: zip of three tuples: from the machine's own steps to the rule. -/
namespace Z3
open PySem PySem.Spec PyProof.Rows L2
abbrev IsTri (h : Heap) (T : Addr) (a b c : Value) : Prop := h.get? T = some { cls := .type "tuple", data := .seq #[a, b, c] }
/-- the six of a zip stand apart -/
structure Far (z TI TO i1 i2 i3 l1 l2 l3 : Addr) : Prop where
  nd : [z, TI, TO, i1, i2, i3].Nodup
  a1 : l1 ∉ [z, TO, i1, i2, i3]
  a2 : l2 ∉ [z, TO, i1, i2, i3]
  a3 : l3 ∉ [z, TO, i1, i2, i3]
/-- all but these stand as they stood -/
def Kept (cs : List Addr) (h h' : Heap) : Prop := h'.objs.size = h.objs.size ∧ ∀ b, b ∉ cs → h'.get? b = h.get? b
theorem Kept.one {a : Addr} {cs : List Addr} {h h' : Heap} (k : Heap.SameBut a h h') (ha : a ∈ cs) : Kept cs h h' := ⟨k.1, fun b hb => k.2 b fun e => hb (e ▸ ha)⟩
theorem Kept.trans {cs : List Addr} {h h' h'' : Heap} (a : Kept cs h h') (b : Kept cs h' h'') : Kept cs h h'' := ⟨b.1.trans a.1, fun x hx => (b.2 x hx).trans (a.2 x hx)⟩
theorem Kept.tup {cs : List Addr} {h h' : Heap} (k : Kept cs h h') {l : Addr} {xs : Array Value} (hl : l ∉ cs) (t : h.IsTuple l xs) : h'.IsTuple l xs := by
  obtain ⟨o, ho, r⟩ := t
  exact ⟨o, (k.2 l hl).trans ho, r⟩
section
variable {prog : Program} {w : World} {A : Around} {E : Value → Shared → Prop} {s : Shared}
theorem put_tri {T : Addr} {a b c x : Value} {k : Nat} {Q : Unit → Shared → Prop} (hT : IsTri s.heap T a b c)
    (h : ∀ h', h'.get? T = some { cls := .type "tuple", data := .seq ((#[a, b, c] : Array Value).setIfInBounds k x) } → Heap.SameBut T s.heap h' → Q () { s with heap := h' }) :
    wpAny (model prog w) A (updateSeq T (·.setIfInBounds k x)) Q E s := by
  refine wpAny_updateSeq hT rfl (h _ ?_ (Heap.SameBut.update ..))
  rw [Heap.get?_update_self _ hT rfl]
  simp [Obj.mapSeq]
/-- the turn: each of the three gives its next -/
theorem next_item {z TI TO i1 i2 i3 l1 l2 l3 : Addr} {k1 k2 k3 : Nat} {xs ys us : Array Value} {x y u a b c : Value} {Q : Value → Shared → Prop} (D : Far z TI TO i1 i2 i3 l1 l2 l3)
    (hz : IsZip s.heap z TI TO .none) (hTI : IsTri s.heap TI (.ref i1) (.ref i2) (.ref i3)) (hTO : IsTri s.heap TO a b c)
    (h1 : s.heap.IsTupleIter i1 l1 k1) (h2 : s.heap.IsTupleIter i2 l2 k2) (h3 : s.heap.IsTupleIter i3 l3 k3) (hl1 : s.heap.IsTuple l1 xs) (hl2 : s.heap.IsTuple l2 ys) (hl3 : s.heap.IsTuple l3 us)
    (hx : xs[k1]? = some x) (hy : ys[k2]? = some y) (hu : us[k3]? = some u)
    (hQ : ∀ h', IsZip h' z TI TO (rawInt s.heap.objs.size) → IsTri h' TO x y u → h'.IsTupleIter i1 l1 (k1 + 1) → h'.IsTupleIter i2 l2 (k2 + 1) → h'.IsTupleIter i3 l3 (k3 + 1) → IsTri h' s.heap.objs.size x y u →
      (∀ c o, c ∉ [z, TO, i1, i2, i3] → s.heap.get? c = some o → h'.get? c = some o) → Q (.ref s.heap.objs.size) { s with heap := h' }) :
    wpAny (model prog w) A (Builtin.«zip.__next__» ⟨[.ref z], []⟩) (fun fin s' => ∃ v, fin = .done (.ret v) ∧ Q v s') E s := by
  have nd := D.nd
  simp only [List.nodup_cons, List.mem_cons, List.not_mem_nil, or_false, not_or, not_false_eq_true, List.nodup_nil, and_true] at nd
  obtain ⟨⟨zTI, zTO, z1, z2, z3⟩, ⟨TITO, TI1, TI2, TI3⟩, ⟨TO1, TO2, TO3⟩, ⟨n12, n13⟩, n23⟩ := nd
  show wpAny _ _ (field (.ref z) 2 >>= _) _ _ _
  refine wpAny_bind (wpAny_field hz rfl (x := .bool false) rfl ?_)
  show wpAny _ _ (field (.ref z) 3 >>= _) _ _ _
  refine wpAny_bind (wpAny_field hz rfl (x := .ref TI) rfl ?_)
  refine wpAny_bind (wpAny_seqItems hTI rfl ?_)
  show wpAny _ _ (Builtin.SmallTypes.ownedTupleIsFree (.ref z) >>= _) _ _ _
  refine wpAny_bind ?_
  unfold Builtin.SmallTypes.ownedTupleIsFree
  refine wpAny_bind (wpAny_field hz rfl (x := .none) rfl (wpAny_pure ?_))
  simp only [if_true]
  refine wpAny_bind (wpAny_rule ?_)
  refine wpAny_bind (wpAny_field hz rfl (x := .ref TO) rfl ?_)
  refine wpAny_bind (wpAny_setField_rec hz (by simp) fun ha hza sa => ?_)
  replace hza : IsZip ha z TI TO .ellipsis := hza
  refine wpAny_bind ?_
  simp only [List.zipIdx_cons, List.zipIdx_nil, List.forIn_cons, List.forIn_nil]
  -- the first
  refine wpAny_bind (wpAny_bind (wpAny_onRaise ?_))
  show wpAny _ _ (Builtin.SmallTypes.nextOf (.ref i1) >>= _) _ _ _
  have ka : Kept [z, TO, i1, i2, i3] s.heap ha := .one sa (by simp)
  refine wpAny_bind (RZ.nextOf_tuple_item (h1.at fun o e => (sa.2 _ (Ne.symm z1)).trans e) (ka.tup D.a1 hl1) hx fun hb h1b sb => wpAny_pure ?_)
  have kb := ka.trans (.one sb (by simp))
  have hTOb : IsTri hb TO a b c := (sb.2 _ TO1).trans ((sa.2 _ (Ne.symm zTO)).trans hTO)
  refine wpAny_bind (wpAny_seqItems hTOb rfl ?_)
  refine wpAny_bind (put_tri hTOb fun hc hTOc sc => ?_)
  replace hTOc : IsTri hc TO x b c := hTOc
  have kc := kb.trans (.one sc (by simp))
  refine wpAny_bind (wpAny_letGo (wpAny_pure ?_))
  -- the second
  refine wpAny_bind (wpAny_bind (wpAny_onRaise ?_))
  show wpAny _ _ (Builtin.SmallTypes.nextOf (.ref i2) >>= _) _ _ _
  refine wpAny_bind (RZ.nextOf_tuple_item (h2.at fun o e => (sc.2 _ (Ne.symm TO2)).trans ((sb.2 _ (Ne.symm n12)).trans ((sa.2 _ (Ne.symm z2)).trans e))) (kc.tup D.a2 hl2) hy fun hd h2d sd => wpAny_pure ?_)
  have kd := kc.trans (.one sd (by simp))
  have hTOd : IsTri hd TO x b c := (sd.2 _ TO2).trans hTOc
  refine wpAny_bind (wpAny_seqItems hTOd rfl ?_)
  refine wpAny_bind (put_tri hTOd fun he hTOe se => ?_)
  replace hTOe : IsTri he TO x y c := hTOe
  have ke := kd.trans (.one se (by simp))
  refine wpAny_bind (wpAny_letGo (wpAny_pure ?_))
  -- the third
  refine wpAny_bind (wpAny_bind (wpAny_onRaise ?_))
  show wpAny _ _ (Builtin.SmallTypes.nextOf (.ref i3) >>= _) _ _ _
  refine wpAny_bind (RZ.nextOf_tuple_item (h3.at fun o e => (se.2 _ (Ne.symm TO3)).trans ((sd.2 _ (Ne.symm n23)).trans ((sc.2 _ (Ne.symm TO3)).trans ((sb.2 _ (Ne.symm n13)).trans ((sa.2 _ (Ne.symm z3)).trans e))))) (ke.tup D.a3 hl3) hu fun hf h3f sf => wpAny_pure ?_)
  have kf := ke.trans (.one sf (by simp))
  have hTOf : IsTri hf TO x y c := (sf.2 _ TO3).trans hTOe
  refine wpAny_bind (wpAny_seqItems hTOf rfl ?_)
  refine wpAny_bind (put_tri hTOf fun hg hTOg sg => ?_)
  replace hTOg : IsTri hg TO x y u := hTOg
  have kg := kf.trans (.one sg (by simp))
  refine wpAny_bind (wpAny_letGo (wpAny_pure (wpAny_pure ?_)))
  refine wpAny_bind (wpAny_seqItems hTOg rfl ?_)
  refine wpAny_bind (wpAny_newTuple ?_)
  have hzg : IsZip hg z TI TO .ellipsis := (sg.2 _ zTO).trans ((sf.2 _ z3).trans ((se.2 _ zTO).trans ((sd.2 _ z2).trans ((sc.2 _ zTO).trans ((sb.2 _ z1).trans hza)))))
  have h1g : hg.IsTupleIter i1 l1 (k1 + 1) := h1b.at fun o e => (sg.2 _ (Ne.symm TO1)).trans ((sf.2 _ n13).trans ((se.2 _ (Ne.symm TO1)).trans ((sd.2 _ n12).trans ((sc.2 _ (Ne.symm TO1)).trans e))))
  have h2g : hg.IsTupleIter i2 l2 (k2 + 1) := h2d.at fun o e => (sg.2 _ (Ne.symm TO2)).trans ((sf.2 _ n23).trans ((se.2 _ (Ne.symm TO2)).trans e))
  have h3g : hg.IsTupleIter i3 l3 (k3 + 1) := h3f.at fun o e => (sg.2 _ (Ne.symm TO3)).trans e
  have hzlt : z < hg.objs.size := Heap.lt_size hzg
  show wpAny _ _ (Builtin.SmallTypes.ownedTupleHandOut (.ref z) (.ref hg.objs.size) >>= _) _ _ _
  refine wpAny_bind ?_
  unfold Builtin.SmallTypes.ownedTupleHandOut
  have hzp : IsZip (hg.push { cls := .type "tuple", data := .seq #[x, y, u] }) z TI TO .ellipsis := Heap.get?_push_of_some _ hzg
  refine wpAny_bind (wpAny_setField_rec hzp (by simp) fun hm hzm sm => ?_)
  replace hzm : IsZip hm z TI TO (rawInt hg.objs.size) := hzm
  refine wpAny_setField_rec hzm (by simp) fun hn hzn sn => ?_
  replace hzn : IsZip hn z TI TO (rawInt hg.objs.size) := hzn
  have up : ∀ c o, c ≠ z → hg.get? c = some o → hn.get? c = some o := fun c o n e => (sn.2 _ n).trans ((sm.2 _ n).trans (Heap.get?_push_of_some _ e))
  have hTn : IsTri hn hg.objs.size x y u := (sn.2 _ (Nat.ne_of_gt hzlt)).trans ((sm.2 _ (Nat.ne_of_gt hzlt)).trans (Heap.get?_push_size _ rfl))
  rw [kg.1] at hzn hTn
  refine wpAny_pure ⟨_, rfl, ?_⟩
  show Q (.ref hg.objs.size) _
  rw [kg.1]
  exact hQ hn hzn (up _ _ (Ne.symm zTO) hTOg) (h1g.at fun o e => up _ o (Ne.symm z1) e) (h2g.at fun o e => up _ o (Ne.symm z2) e) (h3g.at fun o e => up _ o (Ne.symm z3) e) hTn
    fun c o hc e => up c o (fun q => hc (by simp [q])) ((kg.2 c hc).trans e)
/-- what is left behind the end: all others as they stood -/
def Past (cs : List Addr) (h h' : Heap) : Prop := ∀ c o, c ∉ cs → h.get? c = some o → h'.get? c = some o
theorem next_end {z TI TO i1 i2 i3 l1 l2 l3 : Addr} {k1 k2 k3 : Nat} {xs ys us : Array Value} {a b c : Value} {Q : Fin → Shared → Prop} (hh : A.handled = none) (D : Far z TI TO i1 i2 i3 l1 l2 l3)
    (hz : IsZip s.heap z TI TO .none) (hTI : IsTri s.heap TI (.ref i1) (.ref i2) (.ref i3)) (hTO : IsTri s.heap TO a b c)
    (h1 : s.heap.IsTupleIter i1 l1 k1) (h2 : s.heap.IsTupleIter i2 l2 k2) (h3 : s.heap.IsTupleIter i3 l3 k3) (hl1 : s.heap.IsTuple l1 xs) (hl2 : s.heap.IsTuple l2 ys) (hl3 : s.heap.IsTuple l3 us)
    (hend : xs[k1]? = none ∨ ys[k2]? = none ∨ us[k3]? = none)
    (hE : ∀ h' e, Past [z, TO, i1, i2, i3] s.heap h' → (∃ o, h'.get? e = some o ∧ o.cls = .type "StopIteration") → E (.ref e) { s with heap := h' }) :
    wpAny (model prog w) A (Builtin.«zip.__next__» ⟨[.ref z], []⟩) Q E s := by
  have nd := D.nd
  simp only [List.nodup_cons, List.mem_cons, List.not_mem_nil, or_false, not_or, not_false_eq_true, List.nodup_nil, and_true] at nd
  obtain ⟨⟨zTI, zTO, z1, z2, z3⟩, ⟨TITO, TI1, TI2, TI3⟩, ⟨TO1, TO2, TO3⟩, ⟨n12, n13⟩, n23⟩ := nd
  -- the last step: the exception is handed on
  have fin : ∀ (i : Addr) (h h' : Heap) (e : Addr), i ∈ [z, TO, i1, i2, i3] → z ≠ i → Kept [z, TO, i1, i2, i3] s.heap h → IsZip h z TI TO .ellipsis → Heap.ExtBut i h h' → (∃ o, h'.get? e = some o ∧ o.cls = .type "StopIteration") →
      (∃ o, h'.get? z = some o ∧ IsZip h' z TI TO .ellipsis) ∧ e ≠ z ∧ ∀ h'', Heap.SameBut z h' h'' → E (.ref e) { s with heap := h'' } := by
    intro i h h' e hi zi k hz' x ⟨oe, he, hce⟩
    have hz2 : IsZip h' z TI TO .ellipsis := x _ _ zi hz'
    have ez : e ≠ z := fun q => by subst q; rw [hz2] at he; cases he; simp at hce
    refine ⟨⟨_, hz2, hz2⟩, ez, fun h'' sm => hE h'' e (fun c o hc q => ?_) ⟨oe, (sm.2 _ ez).trans he, hce⟩⟩
    exact (sm.2 _ (fun y => hc (by simp [y]))).trans (x _ _ (fun y => hc (by rw [y]; exact hi)) ((k.2 _ hc).trans q))
  show wpAny _ _ (field (.ref z) 2 >>= _) _ _ _
  refine wpAny_bind (wpAny_field hz rfl (x := .bool false) rfl ?_)
  show wpAny _ _ (field (.ref z) 3 >>= _) _ _ _
  refine wpAny_bind (wpAny_field hz rfl (x := .ref TI) rfl ?_)
  refine wpAny_bind (wpAny_seqItems hTI rfl ?_)
  show wpAny _ _ (Builtin.SmallTypes.ownedTupleIsFree (.ref z) >>= _) _ _ _
  refine wpAny_bind ?_
  unfold Builtin.SmallTypes.ownedTupleIsFree
  refine wpAny_bind (wpAny_field hz rfl (x := .none) rfl (wpAny_pure ?_))
  simp only [if_true]
  refine wpAny_bind (wpAny_rule ?_)
  refine wpAny_bind (wpAny_field hz rfl (x := .ref TO) rfl ?_)
  refine wpAny_bind (wpAny_setField_rec hz (by simp) fun ha hza sa => ?_)
  replace hza : IsZip ha z TI TO .ellipsis := hza
  refine wpAny_bind ?_
  simp only [List.zipIdx_cons, List.zipIdx_nil, List.forIn_cons, List.forIn_nil]
  refine wpAny_bind (wpAny_bind (wpAny_onRaise ?_))
  show wpAny _ _ (Builtin.SmallTypes.nextOf (.ref i1) >>= _) _ _ _
  have ka : Kept [z, TO, i1, i2, i3] s.heap ha := .one sa (by simp)
  have h1a := h1.at (h' := ha) fun o e => (sa.2 _ (Ne.symm z1)).trans e
  cases hx : xs[k1]? with
  | none =>
    refine wpAny_bind (RZ.nextOf_tuple_end hh h1a (ka.tup D.a1 hl1) hx fun hb e xb he => ?_)
    obtain ⟨⟨_, _, hzb⟩, _, go⟩ := fin i1 ha hb e (by simp) z1 ka hza xb he
    exact wpAny_setField_rec hzb (by simp) fun hq _ sq => go hq sq
  | some x =>
    refine wpAny_bind (RZ.nextOf_tuple_item h1a (ka.tup D.a1 hl1) hx fun hb h1b sb => wpAny_pure ?_)
    have kb := ka.trans (.one sb (by simp))
    have hTOb : IsTri hb TO a b c := (sb.2 _ TO1).trans ((sa.2 _ (Ne.symm zTO)).trans hTO)
    refine wpAny_bind (wpAny_seqItems hTOb rfl ?_)
    refine wpAny_bind (put_tri hTOb fun hc hTOc sc => ?_)
    replace hTOc : IsTri hc TO x b c := hTOc
    have kc := kb.trans (.one sc (by simp))
    refine wpAny_bind (wpAny_letGo (wpAny_pure ?_))
    refine wpAny_bind (wpAny_bind (wpAny_onRaise ?_))
    show wpAny _ _ (Builtin.SmallTypes.nextOf (.ref i2) >>= _) _ _ _
    have h2c := h2.at (h' := hc) fun o e => (sc.2 _ (Ne.symm TO2)).trans ((sb.2 _ (Ne.symm n12)).trans ((sa.2 _ (Ne.symm z2)).trans e))
    have hzc : IsZip hc z TI TO .ellipsis := (sc.2 _ zTO).trans ((sb.2 _ z1).trans hza)
    cases hy : ys[k2]? with
    | none =>
      refine wpAny_bind (RZ.nextOf_tuple_end hh h2c (kc.tup D.a2 hl2) hy fun hd e xd he => ?_)
      obtain ⟨⟨_, _, hzd⟩, _, go⟩ := fin i2 hc hd e (by simp) z2 kc hzc xd he
      exact wpAny_setField_rec hzd (by simp) fun hq _ sq => go hq sq
    | some y =>
      have hu : us[k3]? = none := by
        rcases hend with h | h | h
        · rw [hx] at h; cases h
        · rw [hy] at h; cases h
        · exact h
      refine wpAny_bind (RZ.nextOf_tuple_item h2c (kc.tup D.a2 hl2) hy fun hd h2d sd => wpAny_pure ?_)
      have kd := kc.trans (.one sd (by simp))
      have hTOd : IsTri hd TO x b c := (sd.2 _ TO2).trans hTOc
      refine wpAny_bind (wpAny_seqItems hTOd rfl ?_)
      refine wpAny_bind (put_tri hTOd fun he hTOe se => ?_)
      have ke := kd.trans (.one se (by simp))
      refine wpAny_bind (wpAny_letGo (wpAny_pure ?_))
      refine wpAny_bind (wpAny_bind (wpAny_onRaise ?_))
      show wpAny _ _ (Builtin.SmallTypes.nextOf (.ref i3) >>= _) _ _ _
      have h3e := h3.at (h' := he) fun o e => (se.2 _ (Ne.symm TO3)).trans ((sd.2 _ (Ne.symm n23)).trans ((sc.2 _ (Ne.symm TO3)).trans ((sb.2 _ (Ne.symm n13)).trans ((sa.2 _ (Ne.symm z3)).trans e))))
      have hze : IsZip he z TI TO .ellipsis := (se.2 _ zTO).trans ((sd.2 _ z2).trans hzc)
      refine wpAny_bind (RZ.nextOf_tuple_end hh h3e (ke.tup D.a3 hl3) hu fun hf e xf hq => ?_)
      obtain ⟨⟨_, _, hzf⟩, _, go⟩ := fin i3 he hf e (by simp) z3 ke hze xf hq
      exact wpAny_setField_rec hzf (by simp) fun hq _ sq => go hq sq
theorem pyNext_item {z TI TO i1 i2 i3 l1 l2 l3 : Addr} {k1 k2 k3 : Nat} {xs ys us : Array Value} {x y u a b c : Value} {Q : Option Value → Shared → Prop} (D : Far z TI TO i1 i2 i3 l1 l2 l3)
    (hz : IsZip s.heap z TI TO .none) (hTI : IsTri s.heap TI (.ref i1) (.ref i2) (.ref i3)) (hTO : IsTri s.heap TO a b c)
    (h1 : s.heap.IsTupleIter i1 l1 k1) (h2 : s.heap.IsTupleIter i2 l2 k2) (h3 : s.heap.IsTupleIter i3 l3 k3) (hl1 : s.heap.IsTuple l1 xs) (hl2 : s.heap.IsTuple l2 ys) (hl3 : s.heap.IsTuple l3 us)
    (hx : xs[k1]? = some x) (hy : ys[k2]? = some y) (hu : us[k3]? = some u)
    (hQ : ∀ h', IsZip h' z TI TO (rawInt s.heap.objs.size) → IsTri h' TO x y u → h'.IsTupleIter i1 l1 (k1 + 1) → h'.IsTupleIter i2 l2 (k2 + 1) → h'.IsTupleIter i3 l3 (k3 + 1) → IsTri h' s.heap.objs.size x y u →
      (∀ c o, c ∉ [z, TO, i1, i2, i3] → s.heap.get? c = some o → h'.get? c = some o) → Q (some (.ref s.heap.objs.size)) { s with heap := h' }) :
    wpAny (model prog w) A (pyNext (.ref z)) Q E s := by
  have hT : s.TypeIs (.ref z) "zip" := ⟨_, hz, rfl⟩
  unfold pyNext
  refine wpAny_bind (wpAny_attempt (wpAny_callSpecial?_slot (name := Str.ofString "__next__") hT F.slot_zip_next (wpAny_call_entry F.slot_zip_next hT F.entry_zip_next ?_ (F.args_zip_next_1 _))))
  exact next_item D hz hTI hTO h1 h2 h3 hl1 hl2 hl3 hx hy hu fun h' b1 b2 b3 b4 b5 b6 b7 => wpAny_pure (hQ h' b1 b2 b3 b4 b5 b6 b7)
theorem pyNext_end {z TI TO i1 i2 i3 l1 l2 l3 : Addr} {k1 k2 k3 : Nat} {xs ys us : Array Value} {a b c : Value} {Q : Option Value → Shared → Prop} (hh : A.handled = none) (D : Far z TI TO i1 i2 i3 l1 l2 l3)
    (hz : IsZip s.heap z TI TO .none) (hTI : IsTri s.heap TI (.ref i1) (.ref i2) (.ref i3)) (hTO : IsTri s.heap TO a b c)
    (h1 : s.heap.IsTupleIter i1 l1 k1) (h2 : s.heap.IsTupleIter i2 l2 k2) (h3 : s.heap.IsTupleIter i3 l3 k3) (hl1 : s.heap.IsTuple l1 xs) (hl2 : s.heap.IsTuple l2 ys) (hl3 : s.heap.IsTuple l3 us)
    (hend : xs[k1]? = none ∨ ys[k2]? = none ∨ us[k3]? = none) (hQ : ∀ h', Past [z, TO, i1, i2, i3] s.heap h' → Q none { s with heap := h' }) : wpAny (model prog w) A (pyNext (.ref z)) Q E s := by
  have hT : s.TypeIs (.ref z) "zip" := ⟨_, hz, rfl⟩
  unfold pyNext
  refine wpAny_bind (wpAny_attempt (wpAny_callSpecial?_slot (name := Str.ofString "__next__") hT F.slot_zip_next
    (wpAny_call_entry F.slot_zip_next hT F.entry_zip_next (next_end hh D hz hTI hTO h1 h2 h3 hl1 hl2 hl3 hend fun h' e hk he => ?_) (F.args_zip_next_1 _))))
  obtain ⟨o, ho, hc⟩ := he
  exact wpAny_bind (wpAny_isInstance (T := "StopIteration") (b := true) ⟨o, ho, hc⟩ isSubtype_stop (wpAny_pure (hQ _ hk)))
end
/-! ### zip(a, b, c) called -/
theorem tcall (a b c : Value) : checkTypeCall "zip" ⟨[a, b, c], []⟩ = pure () := by kernel_rfl
theorem ncall (a b c : Value) : checkBuiltinCall "zip.__new__" ⟨[.type "zip", a, b, c], []⟩ = pure () := by kernel_rfl
theorem args_init4 (a b c d : Value) : argsOk "object.__init__" ⟨[a, b, c, d], []⟩ := by
  unfold argsOk; rw [signature?_of (id := "object.__init__") (n := ['_', '_', 't', 'i', 'n', 'i', '_', '_']) (o := ['t', 'c', 'e', 'j', 'b', 'o']) (by kernel_rfl) F.owner_object]; kernel_rfl
abbrev itO (l : Addr) : Obj := { cls := .type "tuple_iterator", data := .fields #[.ref l, .int 0 0] }
abbrev hA (h : Heap) (l1 : Addr) : Heap := h.push (itO l1)
abbrev hB (h : Heap) (l1 l2 : Addr) : Heap := (hA h l1).push (itO l2)
abbrev hC (h : Heap) (l1 l2 l3 : Addr) : Heap := (hB h l1 l2).push (itO l3)
abbrev hD (h : Heap) (l1 l2 l3 : Addr) : Heap := (hC h l1 l2 l3).push { cls := .type "tuple", data := .seq #[.ref h.objs.size, .ref (hA h l1).objs.size, .ref (hB h l1 l2).objs.size] }
abbrev hE (h : Heap) (l1 l2 l3 : Addr) : Heap := (hD h l1 l2 l3).push { cls := .type "tuple", data := .seq #[.none, .none, .none] }
abbrev hF (h : Heap) (l1 l2 l3 : Addr) : Heap := (hE h l1 l2 l3).push { cls := .type "zip", data := .fields #[.none, .bool false, .bool false, .ref (hC h l1 l2 l3).objs.size, .ref (hD h l1 l2 l3).objs.size] }
theorem meets_new (l1 l2 l3 : Addr) (xs ys us : Array Value) :
    Meets (Builtin.«zip.__new__» ⟨[.type "zip", .ref l1, .ref l2, .ref l3], []⟩) (fun _ R s => s.heap.IsTuple l1 xs ∧ s.heap.IsTuple l2 ys ∧ s.heap.IsTuple l3 us ∧
      R (.ok (.ret (.ref (hE s.heap l1 l2 l3).objs.size))) { s with heap := hF s.heap l1 l2 l3 }) :=
  .of_wp fun prog w A R s h => by
    obtain ⟨hp, g, d, tk, os⟩ := s; obtain ⟨t1, t2, t3, h⟩ := h
    have hsub := sub_zip
    have L1 : Heap.IsTuple (Shared.heap ⟨hp, g, d, tk, os⟩) l1 xs := t1
    have L2 : Heap.IsTuple (Shared.heap ⟨hp.push (itO l1), g, d, tk, os⟩) l2 ys := Heap.IsTuple.push t2 _
    have L3 : Heap.IsTuple (Shared.heap ⟨(hp.push (itO l1)).push (itO l2), g, d, tk, os⟩) l3 us := Heap.IsTuple.push (Heap.IsTuple.push t3 _) _
    wp_walk using wpAny_pyIter_tuple L1, wpAny_pyIter_tuple L2, wpAny_pyIter_tuple L3
    exact ⟨_, rfl, h⟩
section
variable {prog : Program} {w : World} {A : Around} {E : Value → Shared → Prop} {s : Shared}
theorem call_zip {l1 l2 l3 : Addr} {xs ys us : Array Value} {Q : Value → Shared → Prop} (t1 : s.heap.IsTuple l1 xs) (t2 : s.heap.IsTuple l2 ys) (t3 : s.heap.IsTuple l3 us)
    (h : ∀ h', IsZip h' (s.heap.objs.size + 5) (s.heap.objs.size + 3) (s.heap.objs.size + 4) .none → IsTri h' (s.heap.objs.size + 3) (.ref s.heap.objs.size) (.ref (s.heap.objs.size + 1)) (.ref (s.heap.objs.size + 2)) →
      IsTri h' (s.heap.objs.size + 4) .none .none .none → h'.IsTupleIter s.heap.objs.size l1 0 → h'.IsTupleIter (s.heap.objs.size + 1) l2 0 → h'.IsTupleIter (s.heap.objs.size + 2) l3 0 →
      (∀ c o, s.heap.get? c = some o → h'.get? c = some o) → Q (.ref (s.heap.objs.size + 5)) { s with heap := h' }) :
    wpAny (model prog w) A (call (.type "zip") [.ref l1, .ref l2, .ref l3]) Q E s := by
  refine callType_new F.called_zip (by decide) (tcall _ _ _) (ncall _ _ _) (fun obj => args_init4 obj _ _ _) F.entry_zip_new (meets_new l1 l2 l3 xs ys us) ⟨t1, t2, t3, ?_⟩
  have sA : (hA s.heap l1).objs.size = s.heap.objs.size + 1 := Heap.size_push ..
  have sB : (hB s.heap l1 l2).objs.size = s.heap.objs.size + 2 := by rw [Heap.size_push, sA]
  have sC : (hC s.heap l1 l2 l3).objs.size = s.heap.objs.size + 3 := by rw [Heap.size_push, sB]
  have sD : (hD s.heap l1 l2 l3).objs.size = s.heap.objs.size + 4 := by rw [Heap.size_push, sC]
  have sE : (hE s.heap l1 l2 l3).objs.size = s.heap.objs.size + 5 := by rw [Heap.size_push, sD]
  have gF : (hF s.heap l1 l2 l3).get? (hE s.heap l1 l2 l3).objs.size = some _ := Heap.get?_push_size _ rfl
  have gE : (hF s.heap l1 l2 l3).get? (hD s.heap l1 l2 l3).objs.size = some _ := Heap.get?_push_of_some _ (Heap.get?_push_size _ rfl)
  have gD : (hF s.heap l1 l2 l3).get? (hC s.heap l1 l2 l3).objs.size = some _ := Heap.get?_push_of_some _ (Heap.get?_push_of_some _ (Heap.get?_push_size _ rfl))
  have gC : (hF s.heap l1 l2 l3).get? (hB s.heap l1 l2).objs.size = some _ := Heap.get?_push_of_some _ (Heap.get?_push_of_some _ (Heap.get?_push_of_some _ (Heap.get?_push_size _ rfl)))
  have gB : (hF s.heap l1 l2 l3).get? (hA s.heap l1).objs.size = some _ := Heap.get?_push_of_some _ (Heap.get?_push_of_some _ (Heap.get?_push_of_some _ (Heap.get?_push_of_some _ (Heap.get?_push_size _ rfl))))
  have gA : (hF s.heap l1 l2 l3).get? s.heap.objs.size = some _ := Heap.get?_push_of_some _ (Heap.get?_push_of_some _ (Heap.get?_push_of_some _ (Heap.get?_push_of_some _ (Heap.get?_push_of_some _ (Heap.get?_push_size _ rfl)))))
  show _ ∧ _
  rw [sC, sD, sE] at gF
  rw [sA, sB, sC] at gD
  rw [sD] at gE
  rw [sB] at gC
  rw [sA] at gB
  rw [sE]
  exact ⟨⟨_, gF, rfl⟩, h _ gF gD gE ⟨_, gA, rfl, rfl⟩ ⟨_, gB, rfl, rfl⟩ ⟨_, gC, rfl, rfl⟩ fun c o x =>
    Heap.get?_push_of_some _ (Heap.get?_push_of_some _ (Heap.get?_push_of_some _ (Heap.get?_push_of_some _ (Heap.get?_push_of_some _ (Heap.get?_push_of_some _ x)))))⟩
end
/-! ### the walk -/
def It3 (K : PySem.W.Frag) (a b c : Addr) : It :=
  ⟨fun i H => ∃ (xs ys us : List V) (x y u : V), SqT K H a xs ∧ SqT K H b ys ∧ SqT K H c us ∧ xs[i]? = some x ∧ ys[i]? = some y ∧ us[i]? = some u,
    fun i H v H' => ∃ T x y u, v = .ref T ∧ H T = none ∧ H' = upd H T (.tup [x, y, u]) ∧ (∀ xs, SqT K H a xs → xs[i]? = some x) ∧ (∀ ys, SqT K H b ys → ys[i]? = some y) ∧ ∀ us, SqT K H c us → us[i]? = some u,
    fun i H => ∃ xs ys us : List V, SqT K H a xs ∧ SqT K H b ys ∧ SqT K H c us ∧ (xs.length ≤ i ∨ ys.length ≤ i ∨ us.length ≤ i)⟩
abbrev six (z TI TO i1 i2 i3 : Addr) : List Addr := [z, TI, TO, i1, i2, i3]
theorem turn3 {P : Program} {w : World} {K : PySem.W.Frag} {elts : List Expr} {kk : Nat} {tpos : Pos} {a b c z TI TO i1 i2 i3 : Addr} (D : Far z TI TO i1 i2 i3 a b c) :
    Turn P w K (.Tuple elts kk tpos) (It3 K a b c) (six z TI TO i1 i2 i3) z (fun i h => IsZip h z TI TO .none ∧ IsTri h TI (.ref i1) (.ref i2) (.ref i3) ∧ (∃ x y u, IsTri h TO x y u) ∧ h.IsTupleIter i1 a i ∧ h.IsTupleIter i2 b i ∧ h.IsTupleIter i3 c i) where
  mem := by simp
  obj := fun i h st d hd => by
    obtain ⟨hz, hTI, ⟨x, y, u, hTO⟩, ⟨o1, e1, _, d1⟩, ⟨o2, e2, _, d2⟩, ⟨o3, e3, _, d3⟩⟩ := st
    simp only [six, List.mem_cons, List.not_mem_nil, or_false] at hd
    rcases hd with rfl | rfl | rfl | rfl | rfl | rfl
    · exact ⟨_, hz, fun v q => nomatch q⟩
    · exact ⟨_, hTI, fun v q => nomatch q⟩
    · exact ⟨_, hTO, fun v q => nomatch q⟩
    · exact ⟨o1, e1, fun v q => by rw [d1] at q; cases q⟩
    · exact ⟨o2, e2, fun v q => by rw [d2] at q; cases q⟩
    · exact ⟨o3, e3, fun v q => by rw [d3] at q; cases q⟩
  keep := fun i h h' st k => by
    obtain ⟨hz, hTI, ⟨x, y, u, hTO⟩, h1, h2, h3⟩ := st
    exact ⟨k z (by simp) _ hz, k TI (by simp) _ hTI, ⟨x, y, u, k TO (by simp) _ hTO⟩, h1.at fun o q => k i1 (by simp) o q, h2.at fun o q => k i2 (by simp) o q, h3.at fun o q => k i3 (by simp) o q⟩
  item := by
    intro X hP hw hK hc i pins s σ H E I hf st hg
    subst hP hw hK
    obtain ⟨hz, hTI, ⟨x0, y0, u0, hTO⟩, h1, h2, h3⟩ := st
    obtain ⟨xs, ys, us, x, y, u, qx, qy, qu, hx, hy, hu⟩ := hg
    obtain ⟨A1, rv1, p1, _⟩ := I.tuple qx
    obtain ⟨A2, rv2, p2, _⟩ := I.tuple qy
    obtain ⟨A3, rv3, p3, _⟩ := I.tuple qu
    obtain ⟨v1, hv1, ru1⟩ := rv1.get hx
    obtain ⟨v2, hv2, ru2⟩ := rv2.get hy
    obtain ⟨v3, hv3, ru3⟩ := rv3.get hu
    have nd := D.nd
    simp only [List.nodup_cons, List.mem_cons, List.not_mem_nil, or_false, not_or, not_false_eq_true, List.nodup_nil, and_true] at nd
    obtain ⟨⟨zTI, zTO, z1, z2, z3⟩, ⟨TITO, TI1, TI2, TI3⟩, ⟨TO1, TO2, TO3⟩, ⟨n12, n13⟩, n23⟩ := nd
    have hzl : z < s.heap.objs.size := Heap.lt_size hz
    refine pyNext_item D hz hTI hTO h1 h2 h3 p1 p2 p3 (x := v1) (y := v2) (u := v3) (by simpa using hv1) (by simpa using hv2) (by simpa using hv3) fun h' z' TO' h1' h2' h3' hT hk => ?_
    refine ⟨_, rfl, wpAny_letOwnedTupleGo_zip (s := { s with heap := h' }) z' fun h'' z'' sb => ?_⟩
    have hT2 : h''.get? s.heap.objs.size = some { cls := .type "tuple", data := .seq #[v1, v2, v3] } := (sb.2 _ (Nat.ne_of_gt hzl)).trans hT
    have new : ObjOk X.prog X.w (upd H s.heap.objs.size (.tup [x, y, u])) h'' s.heap.objs.size (.tup [x, y, u]) :=
      ⟨by show 3 ≤ sizeLine; decide, [v1, v2, v3], .cons ru1 (.cons ru2 (.cons ru3 .nil)), ⟨_, hT2, rfl, _, rfl⟩⟩
    have I1 : Inv X pins σ (upd H s.heap.objs.size (.tup [x, y, u])) { s with heap := h'' } :=
      I.turnedNew (t' := s.toks) (ch := six z TI TO i1 i2 i3) (fun d o hb q => (sb.2 d (fun q' => hb (by simp [q']))).trans (hk d o (by
        simp only [six, List.mem_cons, List.not_mem_nil, or_false, not_or] at hb ⊢
        exact ⟨hb.1, hb.2.2.1, hb.2.2.2⟩) q)) hf (Nat.le_refl _) new
    refine ⟨.ref s.heap.objs.size, _, I1, rfl, ⟨_, x, y, u, rfl, I.hok.fresh (Nat.le_refl _), rfl, fun l hl => by rw [I.tuple_inj hl qx]; exact hx, fun l hl => by rw [I.tuple_inj hl qy]; exact hy, fun l hl => by rw [I.tuple_inj hl qu]; exact hu⟩,
      ⟨z'', ?_, ⟨v1, v2, v3, ?_⟩, ?_, ?_, ?_⟩, fun d hdm => ?_⟩
    · exact (sb.2 _ (Ne.symm zTI)).trans (hk _ _ (by simp [TITO, TI1, TI2, TI3, Ne.symm zTI]) hTI)
    · exact (sb.2 _ (Ne.symm zTO)).trans TO'
    · exact h1'.at fun o q => (sb.2 _ (Ne.symm z1)).trans q
    · exact h2'.at fun o q => (sb.2 _ (Ne.symm z2)).trans q
    · exact h3'.at fun o q => (sb.2 _ (Ne.symm z3)).trans q
    · have hlt : d < s.heap.objs.size := by
        have hd := hdm
        simp only [six, List.mem_cons, List.not_mem_nil, or_false] at hd
        rcases hd with rfl | rfl | rfl | rfl | rfl | rfl
        · exact hzl
        · exact Heap.lt_size hTI
        · exact Heap.lt_size hTO
        · obtain ⟨_, e1, _⟩ := h1; exact Heap.lt_size e1
        · obtain ⟨_, e2, _⟩ := h2; exact Heap.lt_size e2
        · obtain ⟨_, e3, _⟩ := h3; exact Heap.lt_size e3
      rw [upd_ne (Nat.ne_of_lt hlt)]
      exact (hf d hdm).1
  done := by
    intro X hP hw hK hc i pins s σ H E I hf st hg
    subst hP hw hK
    obtain ⟨hz, hTI, ⟨x0, y0, u0, hTO⟩, h1, h2, h3⟩ := st
    obtain ⟨xs, ys, us, qx, qy, qu, hend⟩ := hg
    obtain ⟨A1, rv1, p1, _⟩ := I.tuple qx
    obtain ⟨A2, rv2, p2, _⟩ := I.tuple qy
    obtain ⟨A3, rv3, p3, _⟩ := I.tuple qu
    have l1 := rv1.length
    have l2 := rv2.length
    have l3 := rv3.length
    have he : A1.toArray[i]? = none ∨ A2.toArray[i]? = none ∨ A3.toArray[i]? = none := by
      rcases hend with q | q | q
      · exact .inl (by simp; omega)
      · exact .inr (.inl (by simp; omega))
      · exact .inr (.inr (by simp; omega))
    exact pyNext_end (I.ok.hd hc) D hz hTI hTO h1 h2 h3 p1 p2 p3 he fun h' hk => ⟨rfl, I.turnedL (t' := s.toks) (ch := six z TI TO i1 i2 i3) (fun d o hb q => hk d o (by
        simp only [six, List.mem_cons, List.not_mem_nil, or_false, not_or] at hb ⊢
        exact ⟨hb.1, hb.2.2.1, hb.2.2.2⟩) q) hf⟩
  self := fun A i s Q E st h => wpAny_pyIter_zip st.1 h
def iZip3 (K : PySem.W.Frag) (ta : TA) : TI := fun σ H R => ta σ H fun vs H1 => ∃ a b c xs ys us, vs = [.ref a, .ref b, .ref c] ∧ SqT K H1 a xs ∧ SqT K H1 b ys ∧ SqT K H1 c us ∧ R (It3 K a b c) H1
theorem pi_zip3 {X : Cx} {e e2 e3 : Expr} {ta : TA} {p pos tpos : Pos} {elts : List Expr} {kk : Nat} (hg : Gl X "zip") (hm : X.mg "zip" = none) (ha : PA X [e, e2, e3] ta)
    (hs : starEach [e, e2, e3] X.env = (false, eval e X.env) :: starEach [e2, e3] X.env := by rfl) (hpl : (backTo pos (starEach [e2, e3] X.env)).any (·.1) = false := by rfl) :
    PI X (.Tuple elts kk tpos) (.Call (.Name "zip" p) [e, e2, e3] [] pos) (iZip3 X.K ta) := by
  refine ⟨fun pins s σ H R I h => ?_⟩
  refine Call_ (ld_blt I hg hm PyProof.Rows.boot_zip (PyProof.Rows.callWith_type1 (thn (ha.run pos pins s σ H _ I h) fun vals s1 ⟨vs, H1, I1, r1, q1⟩ => ?_) hs hpl))
  obtain ⟨a, b, c, xs, ys, us, ex, qx, qy, qu, q⟩ := q1
  subst ex
  cases r1 with
  | cons r rr =>
    cases rr with
    | cons r' rr =>
      cases rr with
      | cons r'' rr =>
        cases rr
        cases r
        cases r'
        cases r''
        obtain ⟨A1, rv1, p1, _⟩ := I1.tuple qx
        obtain ⟨A2, rv2, p2, _⟩ := I1.tuple qy
        obtain ⟨A3, rv3, p3, _⟩ := I1.tuple qu
        have lt : ∀ {l : Addr} {its : List Value}, s1.heap.IsTuple l its.toArray → l < s1.heap.objs.size := fun t => by obtain ⟨o, ho, _⟩ := t; exact Heap.lt_size ho
        have d1 := lt p1
        have d2 := lt p2
        have d3 := lt p3
        have ne : ∀ (m : Nat) (k : Nat), m < s1.heap.objs.size → ¬ m = s1.heap.objs.size + k := fun m k hm e => by
          rw [e] at hm
          exact absurd hm (Nat.not_lt.mpr (Nat.le_add_right _ _))
        refine call_zip (show s1.heap.IsTuple a A1.toArray from p1) (show s1.heap.IsTuple b A2.toArray from p2) (show s1.heap.IsTuple c A3.toArray from p3) fun h' hz hTI hTO h1 h2 h3 hk => wpAny_pyIter_zip hz ?_
        have I2 : Inv X pins σ H1 { s1 with heap := h' } := I1.kept (t' := s1.toks) hk
        have far : ∀ l, l < s1.heap.objs.size → l ∉ [s1.heap.objs.size + 5, s1.heap.objs.size + 4, s1.heap.objs.size, s1.heap.objs.size + 1, s1.heap.objs.size + 2] := fun l hl => by
          simp only [List.mem_cons, List.not_mem_nil, or_false, not_or]
          exact ⟨ne l 5 hl, ne l 4 hl, Nat.ne_of_lt hl, ne l 1 hl, ne l 2 hl⟩
        refine ⟨s1.heap.objs.size + 5, six (s1.heap.objs.size + 5) (s1.heap.objs.size + 3) (s1.heap.objs.size + 4) s1.heap.objs.size (s1.heap.objs.size + 1) (s1.heap.objs.size + 2), _, _, H1, rfl, I2,
          turn3 ⟨by simp, far a d1, far b d2, far c d3⟩, ⟨hz, hTI, ⟨_, _, _, hTO⟩, h1, h2, h3⟩, fun d hd => ?_, q⟩
        have hle : s1.heap.objs.size ≤ d := by
          simp only [six, List.mem_cons, List.not_mem_nil, or_false] at hd
          rcases hd with rfl | rfl | rfl | rfl | rfl | rfl <;> first | exact Nat.le_add_right _ _ | exact Nat.le_refl _
        exact I1.fpOk hle (I1.hok.fresh hle)
end Z3
namespace Den
open PySem PySem.Spec PyProof.Rows L2
theorem zip3I_get : ∀ {xs ys zs : List PV} {i : Nat} {x y z : PV}, xs[i]? = some x → ys[i]? = some y → zs[i]? = some z → (zip3I xs ys zs)[i]? = some (.tup [x, y, z])
  | [], _, _, _, _, _, _, e, _, _ => by simp at e
  | _ :: _, [], _, _, _, _, _, _, e, _ => by simp at e
  | _ :: _, _ :: _, [], _, _, _, _, _, _, e => by simp at e
  | a :: xs, b :: ys, c :: zs, 0, x, y, z, e, f, g => by
    simp at e f g
    subst e f g
    rfl
  | a :: xs, b :: ys, c :: zs, i + 1, x, y, z, e, f, g => zip3I_get (xs := xs) (ys := ys) (zs := zs) (by simpa using e) (by simpa using f) (by simpa using g)
theorem zip3I_len : ∀ {xs ys zs : List PV}, (zip3I xs ys zs).length = min xs.length (min ys.length zs.length)
  | [], ys, zs => by simp [zip3I]
  | _ :: _, [], zs => by simp [zip3I]
  | _ :: _, _ :: _, [] => by simp [zip3I]
  | a :: xs, b :: ys, c :: zs => by show (zip3I xs ys zs).length + 1 = _; rw [zip3I_len]; simp only [List.length_cons]; omega
section
variable {X : Cx} {mg : Str → Option Value} {K : PySem.W.Frag}
theorem tri_new {ι : List Addr} {H : Hp} {T : Addr} {x y z : PV} {v w u : V} (hn : H T = none) (rx : RV K mg ι H x v) (ry : RV K mg ι H y w) (rz : RV K mg ι H z u) : RV K mg ι (upd H T (.tup [v, w, u])) (.tup [x, y, z]) (.ref T) := by
  simp only [RV]
  exact ⟨T, [v, w, u], rfl, .inl (.inl upd_same), .cons (rx.le (Le.new (ι := ι) hn).ex) (.cons (ry.le (Le.new (ι := ι) hn).ex) (.cons (rz.le (Le.new (ι := ι) hn).ex) .nil))⟩
theorem wk_zip3 {a b c : Addr} {xs ys zs : List PV} {vs ws us : List V} {ι0 : List Addr} {H0 : Hp} (h : SqT K H0 a vs) (h' : SqT K H0 b ws) (h'' : SqT K H0 c us) (r : RVs K mg ι0 H0 xs vs) (r' : RVs K mg ι0 H0 ys ws) (r'' : RVs K mg ι0 H0 zs us) :
    Wk K mg ⟨zip3I xs ys zs, []⟩ [] ι0 H0 (Z3.It3 K a b c) where
  goes := fun i ι st H hi l R g => by
    simp only [zip3I_len] at hi
    obtain ⟨v, hv, _⟩ := r.get (List.getElem?_eq_getElem (show i < xs.length by omega))
    obtain ⟨w, hw, _⟩ := r'.get (List.getElem?_eq_getElem (show i < ys.length by omega))
    obtain ⟨u, hu, _⟩ := r''.get (List.getElem?_eq_getElem (show i < zs.length by omega))
    exact ⟨vs, ws, us, v, w, u, SqT.le l.ex h, SqT.le l.ex h', SqT.le l.ex h'', hv, hw, hu⟩
  stops := fun ι st H l R g => by
    refine ⟨vs, ws, us, SqT.le l.ex h, SqT.le l.ex h', SqT.le l.ex h'', ?_⟩
    simp only [zip3I_len, ← r.length, ← r'.length, ← r''.length]
    omega
  yields := fun i ι st H x H' hi l R g y => by
    simp only [zip3I_len] at hi
    obtain ⟨T, v, w, u, rfl, hn, rfl, hy, hy', hy''⟩ := y
    obtain ⟨v', hv, rv⟩ := r.get (List.getElem?_eq_getElem (show i < xs.length by omega))
    obtain ⟨w', hw, rw'⟩ := r'.get (List.getElem?_eq_getElem (show i < ys.length by omega))
    obtain ⟨u', hu, ru⟩ := r''.get (List.getElem?_eq_getElem (show i < zs.length by omega))
    have e2 : v = v' := Option.some.inj ((hy vs (SqT.le l.ex h)).symm.trans hv)
    have e3 : w = w' := Option.some.inj ((hy' ws (SqT.le l.ex h')).symm.trans hw)
    have e4 : u = u' := Option.some.inj ((hy'' us (SqT.le l.ex h'')).symm.trans hu)
    subst e2; subst e3; subst e4
    exact ⟨.new hn, R.new hn, _, zip3I_get (List.getElem?_eq_getElem (show i < xs.length by omega)) (List.getElem?_eq_getElem (show i < ys.length by omega)) (List.getElem?_eq_getElem (show i < zs.length by omega)), tri_new hn (rv.le l.ex) (rw'.le l.ex) (ru.le l.ex)⟩
theorem RVs.tri {ι : List Addr} {H : Hp} {x y z : PV} {vs : List V} (h : RVs K mg ι H [x, y, z] vs) : ∃ v w u, vs = [v, w, u] ∧ RV K mg ι H x v ∧ RV K mg ι H y w ∧ RV K mg ι H z u := by
  simp only [RVs] at h
  obtain ⟨v, r, rfl, q, w, r', rfl, q', u, r'', rfl, q'', rfl⟩ := h
  exact ⟨v, w, u, rfl, q, q', q''⟩
theorem ji_zip3 {e e2 e3 : Expr} {f g k : Env → Store → Option (PV × Store)} {elts : List Expr} {kk : Nat} {tpos p pos : Pos} (hg : Gl X "zip") (hm : X.mg "zip" = none) (u : unst e = true) (u2 : unst e2 = true) (u3 : unst e3 = true) (he : JE X e f) (he2 : JE X e2 g) (he3 : JE X e3 k) :
    JI X (.Tuple elts kk tpos) (.Call (.Name "zip" p) [e, e2, e3] [] pos) (fun env st => (f env st).bind fun (v, s1) => (g env s1).bind fun (w, s2) => (k env s2).bind fun (z, s3) => match v, w, z with
      | .tup xs, .tup ys, .tup zs => some (⟨zip3I xs ys zs, []⟩, s3)
      | _, _, _ => none) :=
  PI_imp (Z3.pi_zip3 hg hm (ja_cons u he (ja_cons u2 he2 (ja_cons u3 he3 ja_nil))) (by rw [starEach_cons u]) (by rw [starEach_cons u2, starEach_cons u3]; rfl)) fun σ H R ⟨ι, env, st, src, st', Rs, E, e1, q⟩ => by
  cases h1 : f env st with
  | none => simp [h1] at e1
  | some pr =>
    obtain ⟨v, s1⟩ := pr
    cases h2 : g env s1 with
    | none => simp [h1, h2] at e1
    | some pr =>
      obtain ⟨w, s2⟩ := pr
      cases h3 : k env s2 with
      | none => simp [h1, h2, h3] at e1
      | some pr =>
        obtain ⟨z, s3⟩ := pr
        simp only [h1, h2, h3, Option.bind_some] at e1
        refine ⟨ι, env, st, [v, w, z], s3, Rs, E, by simp [h1, h2, h3], fun ι1 us H1 l1 R1 r1 => ?_⟩
        obtain ⟨v1, v2, v3, rfl, r2, r3, r4⟩ := r1.tri
        split at e1
        · rename_i xs ys zs
          cases e1
          simp only [RV] at r2 r3 r4
          obtain ⟨a, vs, rfl, h, r⟩ := r2
          obtain ⟨b, ws, rfl, h', r'⟩ := r3
          obtain ⟨c, zs', rfl, h'', r''⟩ := r4
          exact ⟨a, b, c, vs, ws, zs', rfl, h, h', h'', q ι1 _ [] H1 l1 R1 (fun _ z => nomatch z) (wk_zip3 h h' h'' r r' r'')⟩
        · cases e1
end
end Den

/-! DenZb: zip of a tuple and a list, either way about. -/
namespace Z2
open PySem PySem.Spec PyProof.Rows L2 Z3
def cN (b : Bool) : String := if b then "list" else "tuple"
def iN (b : Bool) : String := if b then "list_iterator" else "tuple_iterator"
/-- a line of values, a list or a tuple; its walk -/
def SqK (b : Bool) (h : Heap) (l : Addr) (xs : Array Value) : Prop := ∃ o, h.get? l = some o ∧ o.cls = .type (cN b) ∧ ∃ n, o.data = .seq xs n
def ItK (b : Bool) (h : Heap) (i l : Addr) (k : Nat) : Prop := ∃ o, h.get? i = some o ∧ o.cls = .type (iN b) ∧ o.data = .fields #[.ref l, .int k 0]
theorem ItK.at {b : Bool} {h h' : Heap} {i l : Addr} {k : Nat} (x : ItK b h i l k) (e : ∀ o, h.get? i = some o → h'.get? i = some o) : ItK b h' i l k := let ⟨o, ho, r⟩ := x; ⟨o, e _ ho, r⟩
theorem SqK.at {b : Bool} {h h' : Heap} {l : Addr} {xs : Array Value} (x : SqK b h l xs) (e : ∀ o, h.get? l = some o → h'.get? l = some o) : SqK b h' l xs := let ⟨o, ho, r⟩ := x; ⟨o, e _ ho, r⟩
structure Far2 (z TI TO i1 i2 l1 l2 : Addr) : Prop where
  nd : [z, TI, TO, i1, i2].Nodup
  a1 : l1 ∉ [z, TO, i1, i2]
  a2 : l2 ∉ [z, TO, i1, i2]
theorem sq_kept {b : Bool} {cs : List Addr} {h h' : Heap} (k : Kept cs h h') {l : Addr} {xs : Array Value} (hl : l ∉ cs) (t : SqK b h l xs) : SqK b h' l xs := t.at fun o e => (k.2 l hl).trans e
section
variable {prog : Program} {w : World} {A : Around} {E : Value → Shared → Prop} {s : Shared} {b1 b2 : Bool}
theorem one_item {b : Bool} {it l : Addr} {i : Nat} {xs : Array Value} {x : Value} {Q : Value → Shared → Prop} (hi : ItK b s.heap it l i) (hl : SqK b s.heap l xs) (hx : xs[i]? = some x)
    (hQ : ∀ h', ItK b h' it l (i + 1) → Heap.SameBut it s.heap h' → Q x { s with heap := h' }) : wpAny (model prog w) A (Builtin.SmallTypes.nextOf (.ref it)) Q E s := by
  cases b with
  | false => exact RZ.nextOf_tuple_item hi hl hx hQ
  | true => exact wpAny_nextOf_list_item hi hl hx hQ
theorem one_end {b : Bool} {it l : Addr} {i : Nat} {xs : Array Value} {Q : Value → Shared → Prop} (hh : A.handled = none) (hi : ItK b s.heap it l i) (hl : SqK b s.heap l xs) (hx : xs[i]? = none)
    (hE : ∀ h' e, Heap.ExtBut it s.heap h' → (∃ o, h'.get? e = some o ∧ o.cls = .type "StopIteration") → E (.ref e) { s with heap := h' }) : wpAny (model prog w) A (Builtin.SmallTypes.nextOf (.ref it)) Q E s := by
  cases b with
  | false => exact RZ.nextOf_tuple_end hh hi hl hx hE
  | true => exact wpAny_nextOf_list_end hh hi hl hx hE
theorem next_item {z TI TO i1 i2 l1 l2 : Addr} {k1 k2 : Nat} {xs ys : Array Value} {x y a b : Value} {Q : Value → Shared → Prop} (D : Far2 z TI TO i1 i2 l1 l2)
    (hz : IsZip s.heap z TI TO .none) (hTI : IsPair s.heap TI (.ref i1) (.ref i2)) (hTO : IsPair s.heap TO a b) (h1 : ItK b1 s.heap i1 l1 k1) (h2 : ItK b2 s.heap i2 l2 k2) (hl1 : SqK b1 s.heap l1 xs) (hl2 : SqK b2 s.heap l2 ys)
    (hx : xs[k1]? = some x) (hy : ys[k2]? = some y)
    (hQ : ∀ h', IsZip h' z TI TO (rawInt s.heap.objs.size) → IsPair h' TO x y → ItK b1 h' i1 l1 (k1 + 1) → ItK b2 h' i2 l2 (k2 + 1) → IsPair h' s.heap.objs.size x y →
      (∀ c o, c ∉ [z, TO, i1, i2] → s.heap.get? c = some o → h'.get? c = some o) → Q (.ref s.heap.objs.size) { s with heap := h' }) :
    wpAny (model prog w) A (Builtin.«zip.__next__» ⟨[.ref z], []⟩) (fun fin s' => ∃ v, fin = .done (.ret v) ∧ Q v s') E s := by
  have nd := D.nd
  simp only [List.nodup_cons, List.mem_cons, List.not_mem_nil, or_false, not_or, not_false_eq_true, List.nodup_nil, and_true] at nd
  obtain ⟨⟨zTI, zTO, z1, z2⟩, ⟨TITO, TI1, TI2⟩, ⟨TO1, TO2⟩, n12⟩ := nd
  show wpAny _ _ (field (.ref z) 2 >>= _) _ _ _
  refine wpAny_bind (wpAny_field hz rfl (x := .bool false) rfl ?_)
  show wpAny _ _ (field (.ref z) 3 >>= _) _ _ _
  refine wpAny_bind (wpAny_field hz rfl (x := .ref TI) rfl ?_)
  refine wpAny_bind (wpAny_seqItems hTI rfl ?_)
  show wpAny _ _ (Builtin.SmallTypes.ownedTupleIsFree (.ref z) >>= _) _ _ _
  refine wpAny_bind ?_
  unfold Builtin.SmallTypes.ownedTupleIsFree
  refine wpAny_bind (wpAny_field hz rfl (x := .none) rfl (wpAny_pure ?_))
  simp only [if_true]
  refine wpAny_bind (wpAny_rule ?_)
  refine wpAny_bind (wpAny_field hz rfl (x := .ref TO) rfl ?_)
  refine wpAny_bind (wpAny_setField_rec hz (by simp) fun ha hza sa => ?_)
  replace hza : IsZip ha z TI TO .ellipsis := hza
  refine wpAny_bind ?_
  simp only [List.zipIdx_cons, List.zipIdx_nil, List.forIn_cons, List.forIn_nil]
  refine wpAny_bind (wpAny_bind (wpAny_onRaise ?_))
  show wpAny _ _ (Builtin.SmallTypes.nextOf (.ref i1) >>= _) _ _ _
  have ka : Kept [z, TO, i1, i2] s.heap ha := .one sa (by simp)
  refine wpAny_bind (one_item (h1.at fun o e => (sa.2 _ (Ne.symm z1)).trans e) (sq_kept ka D.a1 hl1) hx fun hb h1b sb => wpAny_pure ?_)
  have kb := ka.trans (.one sb (by simp))
  have hTOb : IsPair hb TO a b := (sb.2 _ TO1).trans ((sa.2 _ (Ne.symm zTO)).trans hTO)
  refine wpAny_bind (wpAny_seqItems hTOb rfl ?_)
  refine wpAny_bind (wpAny_updateSeq_pair hTOb fun hc hTOc sc => ?_)
  replace hTOc : IsPair hc TO x b := hTOc
  have kc := kb.trans (.one sc (by simp))
  refine wpAny_bind (wpAny_letGo (wpAny_pure ?_))
  refine wpAny_bind (wpAny_bind (wpAny_onRaise ?_))
  show wpAny _ _ (Builtin.SmallTypes.nextOf (.ref i2) >>= _) _ _ _
  refine wpAny_bind (one_item (h2.at fun o e => (sc.2 _ (Ne.symm TO2)).trans ((sb.2 _ (Ne.symm n12)).trans ((sa.2 _ (Ne.symm z2)).trans e))) (sq_kept kc D.a2 hl2) hy fun hd h2d sd => wpAny_pure ?_)
  have kd := kc.trans (.one sd (by simp))
  have hTOd : IsPair hd TO x b := (sd.2 _ TO2).trans hTOc
  refine wpAny_bind (wpAny_seqItems hTOd rfl ?_)
  refine wpAny_bind (wpAny_updateSeq_pair hTOd fun hg hTOg sg => ?_)
  replace hTOg : IsPair hg TO x y := hTOg
  have kg := kd.trans (.one sg (by simp))
  refine wpAny_bind (wpAny_letGo (wpAny_pure (wpAny_pure ?_)))
  refine wpAny_bind (wpAny_seqItems hTOg rfl ?_)
  refine wpAny_bind (wpAny_newTuple ?_)
  have hzg : IsZip hg z TI TO .ellipsis := (sg.2 _ zTO).trans ((sd.2 _ z2).trans ((sc.2 _ zTO).trans ((sb.2 _ z1).trans hza)))
  have h1g : ItK b1 hg i1 l1 (k1 + 1) := h1b.at fun o e => (sg.2 _ (Ne.symm TO1)).trans ((sd.2 _ n12).trans ((sc.2 _ (Ne.symm TO1)).trans e))
  have h2g : ItK b2 hg i2 l2 (k2 + 1) := h2d.at fun o e => (sg.2 _ (Ne.symm TO2)).trans e
  have hzlt : z < hg.objs.size := Heap.lt_size hzg
  show wpAny _ _ (Builtin.SmallTypes.ownedTupleHandOut (.ref z) (.ref hg.objs.size) >>= _) _ _ _
  refine wpAny_bind ?_
  unfold Builtin.SmallTypes.ownedTupleHandOut
  have hzp : IsZip (hg.push { cls := .type "tuple", data := .seq #[x, y] }) z TI TO .ellipsis := Heap.get?_push_of_some _ hzg
  refine wpAny_bind (wpAny_setField_rec hzp (by simp) fun hm hzm sm => ?_)
  replace hzm : IsZip hm z TI TO (rawInt hg.objs.size) := hzm
  refine wpAny_setField_rec hzm (by simp) fun hn hzn sn => ?_
  replace hzn : IsZip hn z TI TO (rawInt hg.objs.size) := hzn
  have up : ∀ c o, c ≠ z → hg.get? c = some o → hn.get? c = some o := fun c o n e => (sn.2 _ n).trans ((sm.2 _ n).trans (Heap.get?_push_of_some _ e))
  have hTn : IsPair hn hg.objs.size x y := (sn.2 _ (Nat.ne_of_gt hzlt)).trans ((sm.2 _ (Nat.ne_of_gt hzlt)).trans (Heap.get?_push_size _ rfl))
  rw [kg.1] at hzn hTn
  refine wpAny_pure ⟨_, rfl, ?_⟩
  show Q (.ref hg.objs.size) _
  rw [kg.1]
  exact hQ hn hzn (up _ _ (Ne.symm zTO) hTOg) (h1g.at fun o e => up _ o (Ne.symm z1) e) (h2g.at fun o e => up _ o (Ne.symm z2) e) hTn fun c o hc e => up c o (fun q => hc (by simp [q])) ((kg.2 c hc).trans e)
theorem next_end {z TI TO i1 i2 l1 l2 : Addr} {k1 k2 : Nat} {xs ys : Array Value} {a b : Value} {Q : Fin → Shared → Prop} (hh : A.handled = none) (D : Far2 z TI TO i1 i2 l1 l2)
    (hz : IsZip s.heap z TI TO .none) (hTI : IsPair s.heap TI (.ref i1) (.ref i2)) (hTO : IsPair s.heap TO a b) (h1 : ItK b1 s.heap i1 l1 k1) (h2 : ItK b2 s.heap i2 l2 k2) (hl1 : SqK b1 s.heap l1 xs) (hl2 : SqK b2 s.heap l2 ys)
    (hend : xs[k1]? = none ∨ ys[k2]? = none) (hE : ∀ h' e, Past [z, TO, i1, i2] s.heap h' → (∃ o, h'.get? e = some o ∧ o.cls = .type "StopIteration") → E (.ref e) { s with heap := h' }) :
    wpAny (model prog w) A (Builtin.«zip.__next__» ⟨[.ref z], []⟩) Q E s := by
  have nd := D.nd
  simp only [List.nodup_cons, List.mem_cons, List.not_mem_nil, or_false, not_or, not_false_eq_true, List.nodup_nil, and_true] at nd
  obtain ⟨⟨zTI, zTO, z1, z2⟩, ⟨TITO, TI1, TI2⟩, ⟨TO1, TO2⟩, n12⟩ := nd
  have fin : ∀ (i : Addr) (h h' : Heap) (e : Addr), i ∈ [z, TO, i1, i2] → z ≠ i → Kept [z, TO, i1, i2] s.heap h → IsZip h z TI TO .ellipsis → Heap.ExtBut i h h' → (∃ o, h'.get? e = some o ∧ o.cls = .type "StopIteration") →
      IsZip h' z TI TO .ellipsis ∧ ∀ h'', Heap.SameBut z h' h'' → E (.ref e) { s with heap := h'' } := by
    intro i h h' e hi zi k hz' x ⟨oe, he, hce⟩
    have hz2 : IsZip h' z TI TO .ellipsis := x _ _ zi hz'
    have ez : e ≠ z := fun q => by subst q; rw [hz2] at he; cases he; simp at hce
    refine ⟨hz2, fun h'' sm => hE h'' e (fun c o hc q => ?_) ⟨oe, (sm.2 _ ez).trans he, hce⟩⟩
    exact (sm.2 _ (fun y => hc (by simp [y]))).trans (x _ _ (fun y => hc (by rw [y]; exact hi)) ((k.2 _ hc).trans q))
  show wpAny _ _ (field (.ref z) 2 >>= _) _ _ _
  refine wpAny_bind (wpAny_field hz rfl (x := .bool false) rfl ?_)
  show wpAny _ _ (field (.ref z) 3 >>= _) _ _ _
  refine wpAny_bind (wpAny_field hz rfl (x := .ref TI) rfl ?_)
  refine wpAny_bind (wpAny_seqItems hTI rfl ?_)
  show wpAny _ _ (Builtin.SmallTypes.ownedTupleIsFree (.ref z) >>= _) _ _ _
  refine wpAny_bind ?_
  unfold Builtin.SmallTypes.ownedTupleIsFree
  refine wpAny_bind (wpAny_field hz rfl (x := .none) rfl (wpAny_pure ?_))
  simp only [if_true]
  refine wpAny_bind (wpAny_rule ?_)
  refine wpAny_bind (wpAny_field hz rfl (x := .ref TO) rfl ?_)
  refine wpAny_bind (wpAny_setField_rec hz (by simp) fun ha hza sa => ?_)
  replace hza : IsZip ha z TI TO .ellipsis := hza
  refine wpAny_bind ?_
  simp only [List.zipIdx_cons, List.zipIdx_nil, List.forIn_cons, List.forIn_nil]
  refine wpAny_bind (wpAny_bind (wpAny_onRaise ?_))
  show wpAny _ _ (Builtin.SmallTypes.nextOf (.ref i1) >>= _) _ _ _
  have ka : Kept [z, TO, i1, i2] s.heap ha := .one sa (by simp)
  have h1a := h1.at (h' := ha) fun o e => (sa.2 _ (Ne.symm z1)).trans e
  cases hx : xs[k1]? with
  | none =>
    refine wpAny_bind (one_end hh h1a (sq_kept ka D.a1 hl1) hx fun hb e xb he => ?_)
    obtain ⟨hzb, go⟩ := fin i1 ha hb e (by simp) z1 ka hza xb he
    exact wpAny_setField_rec hzb (by simp) fun hq _ sq => go hq sq
  | some x =>
    have hy : ys[k2]? = none := hend.resolve_left (by rw [hx]; simp)
    refine wpAny_bind (one_item h1a (sq_kept ka D.a1 hl1) hx fun hb h1b sb => wpAny_pure ?_)
    have kb := ka.trans (.one sb (by simp))
    have hTOb : IsPair hb TO a b := (sb.2 _ TO1).trans ((sa.2 _ (Ne.symm zTO)).trans hTO)
    refine wpAny_bind (wpAny_seqItems hTOb rfl ?_)
    refine wpAny_bind (wpAny_updateSeq_pair hTOb fun hc hTOc sc => ?_)
    have kc := kb.trans (.one sc (by simp))
    refine wpAny_bind (wpAny_letGo (wpAny_pure ?_))
    refine wpAny_bind (wpAny_bind (wpAny_onRaise ?_))
    show wpAny _ _ (Builtin.SmallTypes.nextOf (.ref i2) >>= _) _ _ _
    have h2c := h2.at (h' := hc) fun o e => (sc.2 _ (Ne.symm TO2)).trans ((sb.2 _ (Ne.symm n12)).trans ((sa.2 _ (Ne.symm z2)).trans e))
    have hzc : IsZip hc z TI TO .ellipsis := (sc.2 _ zTO).trans ((sb.2 _ z1).trans hza)
    refine wpAny_bind (one_end hh h2c (sq_kept kc D.a2 hl2) hy fun hd e xd he => ?_)
    obtain ⟨hzd, go⟩ := fin i2 hc hd e (by simp) z2 kc hzc xd he
    exact wpAny_setField_rec hzd (by simp) fun hq _ sq => go hq sq
theorem pyNext_item {z TI TO i1 i2 l1 l2 : Addr} {k1 k2 : Nat} {xs ys : Array Value} {x y a b : Value} {Q : Option Value → Shared → Prop} (D : Far2 z TI TO i1 i2 l1 l2)
    (hz : IsZip s.heap z TI TO .none) (hTI : IsPair s.heap TI (.ref i1) (.ref i2)) (hTO : IsPair s.heap TO a b) (h1 : ItK b1 s.heap i1 l1 k1) (h2 : ItK b2 s.heap i2 l2 k2) (hl1 : SqK b1 s.heap l1 xs) (hl2 : SqK b2 s.heap l2 ys)
    (hx : xs[k1]? = some x) (hy : ys[k2]? = some y)
    (hQ : ∀ h', IsZip h' z TI TO (rawInt s.heap.objs.size) → IsPair h' TO x y → ItK b1 h' i1 l1 (k1 + 1) → ItK b2 h' i2 l2 (k2 + 1) → IsPair h' s.heap.objs.size x y →
      (∀ c o, c ∉ [z, TO, i1, i2] → s.heap.get? c = some o → h'.get? c = some o) → Q (some (.ref s.heap.objs.size)) { s with heap := h' }) : wpAny (model prog w) A (pyNext (.ref z)) Q E s := by
  have hT : s.TypeIs (.ref z) "zip" := ⟨_, hz, rfl⟩
  unfold pyNext
  refine wpAny_bind (wpAny_attempt (wpAny_callSpecial?_slot (name := Str.ofString "__next__") hT F.slot_zip_next (wpAny_call_entry F.slot_zip_next hT F.entry_zip_next ?_ (F.args_zip_next_1 _))))
  exact next_item D hz hTI hTO h1 h2 hl1 hl2 hx hy fun h' c1 c2 c3 c4 c5 c6 => wpAny_pure (hQ h' c1 c2 c3 c4 c5 c6)
theorem pyNext_end {z TI TO i1 i2 l1 l2 : Addr} {k1 k2 : Nat} {xs ys : Array Value} {a b : Value} {Q : Option Value → Shared → Prop} (hh : A.handled = none) (D : Far2 z TI TO i1 i2 l1 l2)
    (hz : IsZip s.heap z TI TO .none) (hTI : IsPair s.heap TI (.ref i1) (.ref i2)) (hTO : IsPair s.heap TO a b) (h1 : ItK b1 s.heap i1 l1 k1) (h2 : ItK b2 s.heap i2 l2 k2) (hl1 : SqK b1 s.heap l1 xs) (hl2 : SqK b2 s.heap l2 ys)
    (hend : xs[k1]? = none ∨ ys[k2]? = none) (hQ : ∀ h', Past [z, TO, i1, i2] s.heap h' → Q none { s with heap := h' }) : wpAny (model prog w) A (pyNext (.ref z)) Q E s := by
  have hT : s.TypeIs (.ref z) "zip" := ⟨_, hz, rfl⟩
  unfold pyNext
  refine wpAny_bind (wpAny_attempt (wpAny_callSpecial?_slot (name := Str.ofString "__next__") hT F.slot_zip_next
    (wpAny_call_entry F.slot_zip_next hT F.entry_zip_next (next_end hh D hz hTI hTO h1 h2 hl1 hl2 hend fun h' e hk he => ?_) (F.args_zip_next_1 _))))
  obtain ⟨o, ho, hc⟩ := he
  exact wpAny_bind (wpAny_isInstance (T := "StopIteration") (b := true) ⟨o, ho, hc⟩ isSubtype_stop (wpAny_pure (hQ _ hk)))
end
abbrev itO (b : Bool) (l : Addr) : Obj := { cls := .type (iN b), data := .fields #[.ref l, .int 0 0] }
abbrev hA (b1 : Bool) (h : Heap) (l1 : Addr) : Heap := h.push (itO b1 l1)
abbrev hB (b1 b2 : Bool) (h : Heap) (l1 l2 : Addr) : Heap := (hA b1 h l1).push (itO b2 l2)
abbrev hC (b1 b2 : Bool) (h : Heap) (l1 l2 : Addr) : Heap := (hB b1 b2 h l1 l2).push { cls := .type "tuple", data := .seq #[.ref h.objs.size, .ref (hA b1 h l1).objs.size] }
abbrev hD (b1 b2 : Bool) (h : Heap) (l1 l2 : Addr) : Heap := (hC b1 b2 h l1 l2).push { cls := .type "tuple", data := .seq #[.none, .none] }
abbrev hE (b1 b2 : Bool) (h : Heap) (l1 l2 : Addr) : Heap := (hD b1 b2 h l1 l2).push { cls := .type "zip", data := .fields #[.none, .bool false, .bool false, .ref (hB b1 b2 h l1 l2).objs.size, .ref (hC b1 b2 h l1 l2).objs.size] }
theorem meets_new (b1 b2 : Bool) (l1 l2 : Addr) (xs ys : Array Value) :
    Meets (Builtin.«zip.__new__» ⟨[.type "zip", .ref l1, .ref l2], []⟩) (fun _ R s => SqK b1 s.heap l1 xs ∧ SqK b2 s.heap l2 ys ∧ R (.ok (.ret (.ref (hD b1 b2 s.heap l1 l2).objs.size))) { s with heap := hE b1 b2 s.heap l1 l2 }) :=
  .of_wp fun prog w A R s h => by
    obtain ⟨hp, g, d, tk, os⟩ := s; obtain ⟨t1, t2, h⟩ := h
    have hsub := sub_zip
    cases b1 <;> cases b2
    · have L1 : Heap.IsTuple (Shared.heap ⟨hp, g, d, tk, os⟩) l1 xs := t1
      have L2 : Heap.IsTuple (Shared.heap ⟨hp.push { cls := .type "tuple_iterator", data := .fields #[.ref l1, .int 0 0] }, g, d, tk, os⟩) l2 ys := Heap.IsTuple.push t2 _
      wp_walk using wpAny_pyIter_tuple L1, wpAny_pyIter_tuple L2
      exact ⟨_, rfl, h⟩
    · have L1 : Heap.IsTuple (Shared.heap ⟨hp, g, d, tk, os⟩) l1 xs := t1
      have L2 : Heap.IsList (Shared.heap ⟨hp.push { cls := .type "tuple_iterator", data := .fields #[.ref l1, .int 0 0] }, g, d, tk, os⟩) l2 ys := Heap.IsList.push t2 _
      wp_walk using wpAny_pyIter_tuple L1, wpAny_pyIter_list L2
      exact ⟨_, rfl, h⟩
    · have L1 : Heap.IsList (Shared.heap ⟨hp, g, d, tk, os⟩) l1 xs := t1
      have L2 : Heap.IsTuple (Shared.heap ⟨hp.push { cls := .type "list_iterator", data := .fields #[.ref l1, .int 0 0] }, g, d, tk, os⟩) l2 ys := Heap.IsTuple.push t2 _
      wp_walk using wpAny_pyIter_list L1, wpAny_pyIter_tuple L2
      exact ⟨_, rfl, h⟩
    · have L1 : Heap.IsList (Shared.heap ⟨hp, g, d, tk, os⟩) l1 xs := t1
      have L2 : Heap.IsList (Shared.heap ⟨hp.push { cls := .type "list_iterator", data := .fields #[.ref l1, .int 0 0] }, g, d, tk, os⟩) l2 ys := Heap.IsList.push t2 _
      wp_walk using wpAny_pyIter_list L1, wpAny_pyIter_list L2
      exact ⟨_, rfl, h⟩
section
variable {prog : Program} {w : World} {A : Around} {E : Value → Shared → Prop} {s : Shared} {b1 b2 : Bool}
theorem call_zip {l1 l2 : Addr} {xs ys : Array Value} {Q : Value → Shared → Prop} (t1 : SqK b1 s.heap l1 xs) (t2 : SqK b2 s.heap l2 ys)
    (h : ∀ h', IsZip h' (s.heap.objs.size + 4) (s.heap.objs.size + 2) (s.heap.objs.size + 3) .none → IsPair h' (s.heap.objs.size + 2) (.ref s.heap.objs.size) (.ref (s.heap.objs.size + 1)) → IsPair h' (s.heap.objs.size + 3) .none .none →
      ItK b1 h' s.heap.objs.size l1 0 → ItK b2 h' (s.heap.objs.size + 1) l2 0 → (∀ c o, s.heap.get? c = some o → h'.get? c = some o) → Q (.ref (s.heap.objs.size + 4)) { s with heap := h' }) :
    wpAny (model prog w) A (call (.type "zip") [.ref l1, .ref l2]) Q E s := by
  refine callType_new F.called_zip (by decide) (F.typeCall_zip_2 _ _) (F.newCall_zip_2 _ _) (fun obj => F.args_object_init_3 obj _ _) F.entry_zip_new (meets_new b1 b2 l1 l2 xs ys) ⟨t1, t2, ?_⟩
  have sA : (hA b1 s.heap l1).objs.size = s.heap.objs.size + 1 := Heap.size_push ..
  have sB : (hB b1 b2 s.heap l1 l2).objs.size = s.heap.objs.size + 2 := by rw [Heap.size_push, sA]
  have sC : (hC b1 b2 s.heap l1 l2).objs.size = s.heap.objs.size + 3 := by rw [Heap.size_push, sB]
  have sD : (hD b1 b2 s.heap l1 l2).objs.size = s.heap.objs.size + 4 := by rw [Heap.size_push, sC]
  have gE : (hE b1 b2 s.heap l1 l2).get? (hD b1 b2 s.heap l1 l2).objs.size = some _ := Heap.get?_push_size _ rfl
  have gD : (hE b1 b2 s.heap l1 l2).get? (hC b1 b2 s.heap l1 l2).objs.size = some _ := Heap.get?_push_of_some _ (Heap.get?_push_size _ rfl)
  have gC : (hE b1 b2 s.heap l1 l2).get? (hB b1 b2 s.heap l1 l2).objs.size = some _ := Heap.get?_push_of_some _ (Heap.get?_push_of_some _ (Heap.get?_push_size _ rfl))
  have gB : (hE b1 b2 s.heap l1 l2).get? (hA b1 s.heap l1).objs.size = some _ := Heap.get?_push_of_some _ (Heap.get?_push_of_some _ (Heap.get?_push_of_some _ (Heap.get?_push_size _ rfl)))
  have gA : (hE b1 b2 s.heap l1 l2).get? s.heap.objs.size = some _ := Heap.get?_push_of_some _ (Heap.get?_push_of_some _ (Heap.get?_push_of_some _ (Heap.get?_push_of_some _ (Heap.get?_push_size _ rfl))))
  show _ ∧ _
  rw [sB, sC, sD] at gE
  rw [sA, sB] at gC
  rw [sC] at gD
  rw [sA] at gB
  rw [sD]
  exact ⟨⟨_, gE, rfl⟩, h _ gE gC gD ⟨_, gA, rfl, rfl⟩ ⟨_, gB, rfl, rfl⟩ fun c o x => Heap.get?_push_of_some _ (Heap.get?_push_of_some _ (Heap.get?_push_of_some _ (Heap.get?_push_of_some _ (Heap.get?_push_of_some _ x))))⟩
end
/-! ### the walk -/
def SqV (K : PySem.W.Frag) (b : Bool) (H : Hp) (a : Addr) (xs : List V) : Prop := if b then SqL K H a xs else SqT K H a xs
theorem inv_sq {X : Cx} {pins : List (Addr × Obj)} {σ : L2.St} {H : Hp} {s : Shared} (I : Inv X pins σ H s) {b : Bool} {a : Addr} {xs : List V} (h : SqV X.K b H a xs) : ∃ its : List Value, Vals xs its ∧ SqK b s.heap a its.toArray := by
  cases b with
  | false => obtain ⟨its, rv, p, _⟩ := I.tuple (show SqT X.K H a xs from h); exact ⟨its, rv, p⟩
  | true => obtain ⟨its, rv, p, _⟩ := I.list (show SqL X.K H a xs from h); exact ⟨its, rv, p.isList⟩
theorem sq_inj {X : Cx} {pins : List (Addr × Obj)} {σ : L2.St} {H : Hp} {s : Shared} (I : Inv X pins σ H s) {b : Bool} {a : Addr} {xs ys : List V} (h : SqV X.K b H a xs) (h' : SqV X.K b H a ys) : xs = ys := by
  cases b with
  | false => exact I.tuple_inj h h'
  | true => exact I.list_inj h h'
def It2 (K : PySem.W.Frag) (b1 b2 : Bool) (a b : Addr) : It :=
  ⟨fun i H => ∃ (xs ys : List V) (x y : V), SqV K b1 H a xs ∧ SqV K b2 H b ys ∧ xs[i]? = some x ∧ ys[i]? = some y,
    fun i H v H' => ∃ T x y, v = .ref T ∧ H T = none ∧ H' = upd H T (.tup [x, y]) ∧ (∀ xs, SqV K b1 H a xs → xs[i]? = some x) ∧ ∀ ys, SqV K b2 H b ys → ys[i]? = some y,
    fun i H => ∃ xs ys : List V, SqV K b1 H a xs ∧ SqV K b2 H b ys ∧ (xs.length ≤ i ∨ ys.length ≤ i)⟩
abbrev five (z TI TO i1 i2 : Addr) : List Addr := [z, TI, TO, i1, i2]
theorem turn2 {P : Program} {w : World} {K : PySem.W.Frag} {elts : List Expr} {kk : Nat} {tpos : Pos} {b1 b2 : Bool} {a b z TI TO i1 i2 : Addr} (D : Far2 z TI TO i1 i2 a b) :
    Turn P w K (.Tuple elts kk tpos) (It2 K b1 b2 a b) (five z TI TO i1 i2) z (fun i h => IsZip h z TI TO .none ∧ IsPair h TI (.ref i1) (.ref i2) ∧ (∃ x y, IsPair h TO x y) ∧ ItK b1 h i1 a i ∧ ItK b2 h i2 b i) where
  mem := by simp
  obj := fun i h st d hd => by
    obtain ⟨hz, hTI, ⟨x, y, hTO⟩, ⟨o1, e1, _, d1⟩, ⟨o2, e2, _, d2⟩⟩ := st
    simp only [five, List.mem_cons, List.not_mem_nil, or_false] at hd
    rcases hd with rfl | rfl | rfl | rfl | rfl
    · exact ⟨_, hz, fun v q => nomatch q⟩
    · exact ⟨_, hTI, fun v q => nomatch q⟩
    · exact ⟨_, hTO, fun v q => nomatch q⟩
    · exact ⟨o1, e1, fun v q => by rw [d1] at q; cases q⟩
    · exact ⟨o2, e2, fun v q => by rw [d2] at q; cases q⟩
  keep := fun i h h' st k => by
    obtain ⟨hz, hTI, ⟨x, y, hTO⟩, h1, h2⟩ := st
    exact ⟨k z (by simp) _ hz, k TI (by simp) _ hTI, ⟨x, y, k TO (by simp) _ hTO⟩, h1.at fun o q => k i1 (by simp) o q, h2.at fun o q => k i2 (by simp) o q⟩
  item := by
    intro X hP hw hK hc i pins s σ H E I hf st hg
    subst hP hw hK
    obtain ⟨hz, hTI, ⟨x0, y0, hTO⟩, h1, h2⟩ := st
    obtain ⟨xs, ys, x, y, qx, qy, hx, hy⟩ := hg
    obtain ⟨A1, rv1, p1⟩ := inv_sq I qx
    obtain ⟨A2, rv2, p2⟩ := inv_sq I qy
    obtain ⟨v1, hv1, ru1⟩ := rv1.get hx
    obtain ⟨v2, hv2, ru2⟩ := rv2.get hy
    have nd := D.nd
    simp only [List.nodup_cons, List.mem_cons, List.not_mem_nil, or_false, not_or, not_false_eq_true, List.nodup_nil, and_true] at nd
    obtain ⟨⟨zTI, zTO, z1, z2⟩, ⟨TITO, TI1, TI2⟩, ⟨TO1, TO2⟩, n12⟩ := nd
    have hzl : z < s.heap.objs.size := Heap.lt_size hz
    refine pyNext_item D hz hTI hTO h1 h2 p1 p2 (x := v1) (y := v2) (by simpa using hv1) (by simpa using hv2) fun h' z' TO' h1' h2' hT hk => ?_
    refine ⟨_, rfl, wpAny_letOwnedTupleGo_zip (s := { s with heap := h' }) z' fun h'' z'' sb => ?_⟩
    have hT2 : h''.get? s.heap.objs.size = some { cls := .type "tuple", data := .seq #[v1, v2] } := (sb.2 _ (Nat.ne_of_gt hzl)).trans hT
    have new : ObjOk X.prog X.w (upd H s.heap.objs.size (.tup [x, y])) h'' s.heap.objs.size (.tup [x, y]) :=
      ⟨by show 2 ≤ sizeLine; decide, [v1, v2], .cons ru1 (.cons ru2 .nil), ⟨_, hT2, rfl, _, rfl⟩⟩
    have I1 : Inv X pins σ (upd H s.heap.objs.size (.tup [x, y])) { s with heap := h'' } :=
      I.turnedNew (t' := s.toks) (ch := five z TI TO i1 i2) (fun d o hb q => (sb.2 d (fun q' => hb (by simp [q']))).trans (hk d o (by
        simp only [five, List.mem_cons, List.not_mem_nil, or_false, not_or] at hb ⊢
        exact ⟨hb.1, hb.2.2.1, hb.2.2.2⟩) q)) hf (Nat.le_refl _) new
    refine ⟨.ref s.heap.objs.size, _, I1, rfl, ⟨_, x, y, rfl, I.hok.fresh (Nat.le_refl _), rfl, fun l hl => by rw [sq_inj I hl qx]; exact hx, fun l hl => by rw [sq_inj I hl qy]; exact hy⟩,
      ⟨z'', ?_, ⟨v1, v2, ?_⟩, ?_, ?_⟩, fun d hdm => ?_⟩
    · exact (sb.2 _ (Ne.symm zTI)).trans (hk _ _ (by simp [TITO, TI1, TI2, Ne.symm zTI]) hTI)
    · exact (sb.2 _ (Ne.symm zTO)).trans TO'
    · exact h1'.at fun o q => (sb.2 _ (Ne.symm z1)).trans q
    · exact h2'.at fun o q => (sb.2 _ (Ne.symm z2)).trans q
    · have hlt : d < s.heap.objs.size := by
        have hd := hdm
        simp only [five, List.mem_cons, List.not_mem_nil, or_false] at hd
        rcases hd with rfl | rfl | rfl | rfl | rfl
        · exact hzl
        · exact Heap.lt_size hTI
        · exact Heap.lt_size hTO
        · obtain ⟨_, e1, _⟩ := h1; exact Heap.lt_size e1
        · obtain ⟨_, e2, _⟩ := h2; exact Heap.lt_size e2
      rw [upd_ne (Nat.ne_of_lt hlt)]
      exact (hf d hdm).1
  done := by
    intro X hP hw hK hc i pins s σ H E I hf st hg
    subst hP hw hK
    obtain ⟨hz, hTI, ⟨x0, y0, hTO⟩, h1, h2⟩ := st
    obtain ⟨xs, ys, qx, qy, hend⟩ := hg
    obtain ⟨A1, rv1, p1⟩ := inv_sq I qx
    obtain ⟨A2, rv2, p2⟩ := inv_sq I qy
    have l1 := rv1.length
    have l2 := rv2.length
    have he : A1.toArray[i]? = none ∨ A2.toArray[i]? = none := by
      rcases hend with q | q
      · exact .inl (by simp; omega)
      · exact .inr (by simp; omega)
    exact pyNext_end (I.ok.hd hc) D hz hTI hTO h1 h2 p1 p2 he fun h' hk => ⟨rfl, I.turnedL (t' := s.toks) (ch := five z TI TO i1 i2) (fun d o hb q => hk d o (by
        simp only [five, List.mem_cons, List.not_mem_nil, or_false, not_or] at hb ⊢
        exact ⟨hb.1, hb.2.2.1, hb.2.2.2⟩) q) hf⟩
  self := fun A i s Q E st h => wpAny_pyIter_zip st.1 h
def iZip2 (K : PySem.W.Frag) (ta : TA) : TI := fun σ H R => ta σ H fun vs H1 => ∃ b1 b2 a b xs ys, vs = [.ref a, .ref b] ∧ SqV K b1 H1 a xs ∧ SqV K b2 H1 b ys ∧ R (It2 K b1 b2 a b) H1
theorem pi_zip2 {X : Cx} {e e2 : Expr} {ta : TA} {p pos tpos : Pos} {elts : List Expr} {kk : Nat} (hg : Gl X "zip") (hm : X.mg "zip" = none) (ha : PA X [e, e2] ta)
    (hs : starEach [e, e2] X.env = (false, eval e X.env) :: starEach [e2] X.env := by rfl) (hpl : (backTo pos (starEach [e2] X.env)).any (·.1) = false := by rfl) :
    PI X (.Tuple elts kk tpos) (.Call (.Name "zip" p) [e, e2] [] pos) (iZip2 X.K ta) := by
  refine ⟨fun pins s σ H R I h => ?_⟩
  refine Call_ (ld_blt I hg hm PyProof.Rows.boot_zip (PyProof.Rows.callWith_type1 (thn (ha.run pos pins s σ H _ I h) fun vals s1 ⟨vs, H1, I1, r1, q1⟩ => ?_) hs hpl))
  obtain ⟨b1, b2, a, b, xs, ys, ex, qx, qy, q⟩ := q1
  subst ex
  cases r1 with
  | cons r rr =>
    cases rr with
    | cons r' rr =>
      cases rr
      cases r
      cases r'
      obtain ⟨A1, rv1, p1⟩ := inv_sq I1 qx
      obtain ⟨A2, rv2, p2⟩ := inv_sq I1 qy
      have lt : ∀ {b : Bool} {l : Addr} {its : List Value}, SqK b s1.heap l its.toArray → l < s1.heap.objs.size := fun t => by obtain ⟨o, ho, _⟩ := t; exact Heap.lt_size ho
      have d1 := lt p1
      have d2 := lt p2
      have ne : ∀ (m : Nat) (k : Nat), m < s1.heap.objs.size → ¬ m = s1.heap.objs.size + k := fun m k hm e => by
        rw [e] at hm
        exact absurd hm (Nat.not_lt.mpr (Nat.le_add_right _ _))
      refine call_zip (b1 := b1) (b2 := b2) p1 p2 fun h' hz hTI hTO h1 h2 hk => wpAny_pyIter_zip hz ?_
      have I2 : Inv X pins σ H1 { s1 with heap := h' } := I1.kept (t' := s1.toks) hk
      have far : ∀ l, l < s1.heap.objs.size → l ∉ [s1.heap.objs.size + 4, s1.heap.objs.size + 3, s1.heap.objs.size, s1.heap.objs.size + 1] := fun l hl => by
        simp only [List.mem_cons, List.not_mem_nil, or_false, not_or]
        exact ⟨ne l 4 hl, ne l 3 hl, Nat.ne_of_lt hl, ne l 1 hl⟩
      refine ⟨s1.heap.objs.size + 4, five (s1.heap.objs.size + 4) (s1.heap.objs.size + 2) (s1.heap.objs.size + 3) s1.heap.objs.size (s1.heap.objs.size + 1), _, _, H1, rfl, I2,
        turn2 ⟨by simp, far a d1, far b d2⟩, ⟨hz, hTI, ⟨_, _, hTO⟩, h1, h2⟩, fun d hd => ?_, q⟩
      have hle : s1.heap.objs.size ≤ d := by
        simp only [five, List.mem_cons, List.not_mem_nil, or_false] at hd
        rcases hd with rfl | rfl | rfl | rfl | rfl <;> first | exact Nat.le_add_right _ _ | exact Nat.le_refl _
      exact I1.fpOk hle (I1.hok.fresh hle)
end Z2

/-! DenZc: zip of any two lines. -/
namespace Den
open PySem PySem.Spec PyProof.Rows L2
section
variable {X : Cx} {mg : Str → Option Value} {K : PySem.W.Frag}
theorem wk_TL {n : Nat} {a b : Addr} {xs ys : List PV} {vs : List V} {ι0 : List Addr} {H0 : Hp} (h : SqT K H0 a vs) (r : RVs K mg ι0 H0 xs vs) (hb : ι0[n]? = some b) : Wk K mg ⟨zipI xs ys, [(n, ys)]⟩ [] ι0 H0 (Z2.It2 K false true a b) where
  goes := fun i ι st H hi l R g => by
    simp only [zipI_len] at hi
    obtain ⟨b', ws, hb', q, rr⟩ := R.lst (okG_at g (List.mem_singleton_self _))
    have e : b' = b := Option.some.inj (hb'.symm.trans (l.get hb))
    subst e
    obtain ⟨v, hv, _⟩ := r.get (List.getElem?_eq_getElem (show i < xs.length by omega))
    obtain ⟨w, hw, _⟩ := rr.get (List.getElem?_eq_getElem (show i < ys.length by omega))
    exact ⟨vs, ws, v, w, SqT.le l.ex h, q, hv, hw⟩
  stops := fun ι st H l R g => by
    obtain ⟨b', ws, hb', q, rr⟩ := R.lst (okG_at g (List.mem_singleton_self _))
    have e : b' = b := Option.some.inj (hb'.symm.trans (l.get hb))
    subst e
    refine ⟨vs, ws, SqT.le l.ex h, q, ?_⟩
    simp only [zipI_len, ← r.length, ← rr.length]
    omega
  yields := fun i ι st H x H' hi l R g y => by
    simp only [zipI_len] at hi
    obtain ⟨b', ws, hb', q, rr⟩ := R.lst (okG_at g (List.mem_singleton_self _))
    have e : b' = b := Option.some.inj (hb'.symm.trans (l.get hb))
    subst e
    obtain ⟨T, v, w, rfl, hn, rfl, hy, hy'⟩ := y
    obtain ⟨v', hv, rv⟩ := r.get (List.getElem?_eq_getElem (show i < xs.length by omega))
    obtain ⟨w', hw, rw'⟩ := rr.get (List.getElem?_eq_getElem (show i < ys.length by omega))
    have e2 : v = v' := Option.some.inj ((hy vs (SqT.le l.ex h)).symm.trans hv)
    have e3 : w = w' := Option.some.inj ((hy' ws q).symm.trans hw)
    subst e2; subst e3
    exact ⟨.new hn, R.new hn, _, zipI_get (List.getElem?_eq_getElem (show i < xs.length by omega)) (List.getElem?_eq_getElem (show i < ys.length by omega)), pair_new hn (rv.le l.ex) rw'⟩
theorem wk_LT {n : Nat} {a b : Addr} {xs ys : List PV} {ws : List V} {ι0 : List Addr} {H0 : Hp} (h : SqT K H0 b ws) (r : RVs K mg ι0 H0 ys ws) (ha : ι0[n]? = some a) : Wk K mg ⟨zipI xs ys, [(n, xs)]⟩ [] ι0 H0 (Z2.It2 K true false a b) where
  goes := fun i ι st H hi l R g => by
    simp only [zipI_len] at hi
    obtain ⟨a', vs, ha', q, rr⟩ := R.lst (okG_at g (List.mem_singleton_self _))
    have e : a' = a := Option.some.inj (ha'.symm.trans (l.get ha))
    subst e
    obtain ⟨v, hv, _⟩ := rr.get (List.getElem?_eq_getElem (show i < xs.length by omega))
    obtain ⟨w, hw, _⟩ := r.get (List.getElem?_eq_getElem (show i < ys.length by omega))
    exact ⟨vs, ws, v, w, q, SqT.le l.ex h, hv, hw⟩
  stops := fun ι st H l R g => by
    obtain ⟨a', vs, ha', q, rr⟩ := R.lst (okG_at g (List.mem_singleton_self _))
    have e : a' = a := Option.some.inj (ha'.symm.trans (l.get ha))
    subst e
    refine ⟨vs, ws, q, SqT.le l.ex h, ?_⟩
    simp only [zipI_len, ← r.length, ← rr.length]
    omega
  yields := fun i ι st H x H' hi l R g y => by
    simp only [zipI_len] at hi
    obtain ⟨a', vs, ha', q, rr⟩ := R.lst (okG_at g (List.mem_singleton_self _))
    have e : a' = a := Option.some.inj (ha'.symm.trans (l.get ha))
    subst e
    obtain ⟨T, v, w, rfl, hn, rfl, hy, hy'⟩ := y
    obtain ⟨v', hv, rv⟩ := rr.get (List.getElem?_eq_getElem (show i < xs.length by omega))
    obtain ⟨w', hw, rw'⟩ := r.get (List.getElem?_eq_getElem (show i < ys.length by omega))
    have e2 : v = v' := Option.some.inj ((hy vs q).symm.trans hv)
    have e3 : w = w' := Option.some.inj ((hy' ws (SqT.le l.ex h)).symm.trans hw)
    subst e2; subst e3
    exact ⟨.new hn, R.new hn, _, zipI_get (List.getElem?_eq_getElem (show i < xs.length by omega)) (List.getElem?_eq_getElem (show i < ys.length by omega)), pair_new hn rv (rw'.le l.ex)⟩
theorem ji_zipM {e e2 : Expr} {f g : Env → Store → Option (PV × Store)} {elts : List Expr} {kk : Nat} {tpos p pos : Pos} (hg : Gl X "zip") (hm : X.mg "zip" = none) (u : unst e = true) (u2 : unst e2 = true) (he : JE X e f) (he2 : JE X e2 g) : JI X (.Tuple elts kk tpos) (.Call (.Name "zip" p) [e, e2] [] pos) (fun env st => (f env st).bind fun (v, s1) => (g env s1).bind fun (w, s2) => match v, w with
      | .tup xs, .tup ys => some (⟨zipI xs ys, []⟩, s2)
      | .ref m, .ref n => (seqOf (.ref m) s2).bind fun p => (seqOf (.ref n) s2).bind fun q => some (⟨zipI p.1 q.1, p.2 ++ q.2⟩, s2)
      | .tup xs, .ref n => (seqOf (.ref n) s2).bind fun q => some (⟨zipI xs q.1, q.2⟩, s2)
      | .ref m, .tup ys => (seqOf (.ref m) s2).bind fun p => some (⟨zipI p.1 ys, p.2⟩, s2)
      | _, _ => none) :=
  PI_imp (PI_or (RZ.pi_zipA hg hm (ja_cons u he (ja_cons u2 he2 ja_nil)) (by rw [starEach_cons u]) (by rw [starEach_cons u2]; rfl)) (Z2.pi_zip2 hg hm (ja_cons u he (ja_cons u2 he2 ja_nil)) (by rw [starEach_cons u]) (by rw [starEach_cons u2]; rfl))) fun σ H R ⟨ι, env, st, src, st', Rs, E, e1, q⟩ => by
  cases h1 : f env st with
  | none => simp [h1] at e1
  | some pr =>
    obtain ⟨v, s1⟩ := pr
    cases h2 : g env s1 with
    | none => simp [h1, h2] at e1
    | some pr =>
      obtain ⟨w, s2⟩ := pr
      simp only [h1, h2, Option.bind_some] at e1
      split at e1
      · rename_i xs ys
        cases e1
        refine .inl ⟨ι, env, st, [.tup xs, .tup ys], st', Rs, E, by simp [h1, h2], fun ι1 us H1 l1 R1 r1 => ?_⟩
        obtain ⟨x, y, rfl, r2, r3⟩ := r1.two
        simp only [RV] at r2 r3
        obtain ⟨a, vs, rfl, h, r⟩ := r2
        obtain ⟨b, ws, rfl, h', r'⟩ := r3
        exact ⟨a, b, vs, ws, rfl, .inr ⟨h, h', q ι1 _ [] H1 l1 R1 (fun _ z => nomatch z) (wk_zipT h h' r r')⟩⟩
      · rename_i m n
        cases h3 : seqOf (.ref m) s2 with
        | none => simp [h3] at e1
        | some p1 =>
          cases h4 : seqOf (.ref n) s2 with
          | none => simp [h3, h4] at e1
          | some p2 =>
            simp only [h3, h4, Option.bind_some, Option.some.injEq, Prod.mk.injEq] at e1
            obtain ⟨rfl, rfl⟩ := e1
            obtain ⟨xs, rfl, hs⟩ := seqOf_ref h3
            obtain ⟨ys, rfl, hs'⟩ := seqOf_ref h4
            refine .inl ⟨ι, env, st, [.ref m, .ref n], s2, Rs, E, by simp [h1, h2], fun ι1 us H1 l1 R1 r1 => ?_⟩
            obtain ⟨x, y, rfl, r2, r3⟩ := r1.two
            simp only [RV] at r2 r3
            obtain ⟨a, ha, rfl⟩ := r2
            obtain ⟨b, hb, rfl⟩ := r3
            obtain ⟨a', vs, ha', hq, _⟩ := R1.lst hs
            obtain ⟨b', ws, hb', hq', _⟩ := R1.lst hs'
            have e5 : a' = a := Option.some.inj (ha'.symm.trans ha)
            have e6 : b' = b := Option.some.inj (hb'.symm.trans hb)
            subst e5; subst e6
            exact ⟨a', b', vs, ws, rfl, .inl ⟨hq, hq', q ι1 _ [] H1 l1 R1 (fun _ z => nomatch z) (wk_zip ha hb)⟩⟩
      · rename_i xs n
        cases h4 : seqOf (.ref n) s2 with
        | none => simp [h4] at e1
        | some p2 =>
          simp only [h4, Option.bind_some, Option.some.injEq, Prod.mk.injEq] at e1
          obtain ⟨rfl, rfl⟩ := e1
          obtain ⟨ys, rfl, hs'⟩ := seqOf_ref h4
          refine .inr ⟨ι, env, st, [.tup xs, .ref n], s2, Rs, E, by simp [h1, h2], fun ι1 us H1 l1 R1 r1 => ?_⟩
          obtain ⟨x, y, rfl, r2, r3⟩ := r1.two
          simp only [RV] at r2 r3
          obtain ⟨a, vs, rfl, h, r⟩ := r2
          obtain ⟨b, hb, rfl⟩ := r3
          obtain ⟨b', ws, hb', hq', _⟩ := R1.lst hs'
          have e6 : b' = b := Option.some.inj (hb'.symm.trans hb)
          subst e6
          exact ⟨false, true, a, b', vs, ws, rfl, h, hq', q ι1 _ [] H1 l1 R1 (fun _ z => nomatch z) (wk_TL h r hb)⟩
      · rename_i m ys
        cases h3 : seqOf (.ref m) s2 with
        | none => simp [h3] at e1
        | some p1 =>
          simp only [h3, Option.bind_some, Option.some.injEq, Prod.mk.injEq] at e1
          obtain ⟨rfl, rfl⟩ := e1
          obtain ⟨xs, rfl, hs⟩ := seqOf_ref h3
          refine .inr ⟨ι, env, st, [.ref m, .tup ys], s2, Rs, E, by simp [h1, h2], fun ι1 us H1 l1 R1 r1 => ?_⟩
          obtain ⟨x, y, rfl, r2, r3⟩ := r1.two
          simp only [RV] at r2 r3
          obtain ⟨a, ha, rfl⟩ := r2
          obtain ⟨b, ws, rfl, h, r⟩ := r3
          obtain ⟨a', vs, ha', hq, _⟩ := R1.lst hs
          have e6 : a' = a := Option.some.inj (ha'.symm.trans ha)
          subst e6
          exact ⟨true, false, a', b, vs, ws, rfl, hq, h, q ι1 _ [] H1 l1 R1 (fun _ z => nomatch z) (wk_LT h r ha)⟩
      · cases e1
end
end Den

/-! DenI: operators by values. -/
namespace Den
open PySem PySem.Spec PyProof.Rows L2
theorem sixteen {n : Nat} (h : n ≤ 16000000) : n ≤ sizeLine := small_line h
/-! ### what they do -/
def fAdd : Fn
  | [.int i, .int j], st => some (.int (i + j), st)
  | [.str a, .str b], st => if a.length + b.length ≤ 16000000 then some (.str (a ++ b), st) else none
  | [.tup xs, .tup ys], st => if xs.length + ys.length ≤ 16000000 then some (.tup (xs ++ ys), st) else none
  | [.ref m, .ref n], st => match st[m]?, st[n]? with
    | some (.lst xs), some (.lst ys) => if xs.length + ys.length ≤ 16000000 then some (.ref st.length, st ++ [.lst (xs ++ ys)]) else none
    | _, _ => none
  | _, _ => none
def fSub : Fn
  | [.int i, .int j], st => some (.int (i - j), st)
  | _, _ => none
def okMul (i j : Int) : Prop := (-(2 ^ 64) < i ∧ i < 2 ^ 64) ∨ (-(2 ^ 64) < j ∧ j < 2 ^ 64) ∨ (i.natAbs < 10 ^ 200 ∧ j.natAbs < 10 ^ 200)
instance (i j : Int) : Decidable (okMul i j) := by unfold okMul; infer_instance
def fMul : Fn
  | [.int i, .int j], st => if okMul i j then some (.int (i * j), st) else none
  | [.tup xs, .int k], st => if xs.length ≤ 1000 ∧ 0 ≤ k ∧ k < 1000 then some (.tup (List.replicate k.toNat xs).flatten, st) else none
  | _, _ => none
/-- a divisor -/
def okDiv (j : Int) : Prop := 0 < j ∧ j < 10 ^ 200
instance (j : Int) : Decidable (okDiv j) := by unfold okDiv; infer_instance
def fDiv : Fn
  | [.int i, .int j], st => if okDiv j then some (.int (i / j), st) else none
  | _, _ => none
def fMod : Fn
  | [.int i, .int j], st => if 0 < j then some (.int (i % j), st) else none
  | _, _ => none
def fPow : Fn
  | [.int i, .int j], st => if 0 ≤ j ∧ j ≤ 1000000 ∧ i.natAbs < 2 ^ 64 then some (.int (i ^ j.toNat), st) else none
  | _, _ => none
def fNeg : Fn
  | [.int i], st => some (.int (-i), st)
  | _, _ => none
def fNot : Fn
  | [.bl b], st => some (.bl (!b), st)
  | _, _ => none
def opF : Operator → Option Fn
  | .Add => some fAdd | .Sub => some fSub | .Mult => some fMul | .FloorDiv => some fDiv | .Mod => some fMod | .Pow => some fPow
  | _ => none
def fLt : Fn
  | [.int i, .int j], st => some (.bl (decide (i < j)), st)
  | [.str i, .str j], st => some (.bl (decide (i.cps.toList < j.cps.toList)), st)
  | _, _ => none
def fLe : Fn
  | [.int i, .int j], st => some (.bl (decide (i ≤ j)), st)
  | [.str i, .str j], st => some (.bl (!decide (j.cps.toList < i.cps.toList)), st)
  | _, _ => none
def fGt : Fn
  | [.int i, .int j], st => some (.bl (decide (j < i)), st)
  | _, _ => none
def fGe : Fn
  | [.int i, .int j], st => some (.bl (decide (j ≤ i)), st)
  | _, _ => none
def fIsN : Fn
  | [x, .non], st => some (.bl (decide (x = .non)), st)
  | _, _ => none
def fNotN : Fn
  | [x, .non], st => some (.bl (!decide (x = .non)), st)
  | _, _ => none

/-! ### equality of data -/
/-- data: no lists within, texts of right signs, at most n deep -/
def okD : Nat → PV → Bool
  | _, .non => true
  | _, .bl _ => true
  | _, .int _ => true
  | _, .str x => PySem.PyData.strOk x
  | n + 1, .tup xs => xs.all (okD n)
  | 0, .tup _ => false
  | _, _ => false
mutual
/-- as Python compares -/
def peq : PV → PV → Bool
  | .non, .non => true
  | .bl a, .bl b => a == b
  | .bl a, .int j => decide ((if a then 1 else 0) = j)
  | .int i, .bl b => decide (i = (if b then 1 else 0))
  | .int i, .int j => decide (i = j)
  | .str x, .str y => decide (x = y)
  | .tup xs, .tup ys => peqs xs ys
  | _, _ => false
def peqs : List PV → List PV → Bool
  | [], [] => true
  | x :: xs, y :: ys => peq x y && peqs xs ys
  | _, _ => false
end
def lstAt (st : Store) (n : Nat) : Option (List PV) := match st[n]? with
  | some (.lst xs) => some xs
  | some (.fls xs) => some xs
  | _ => none
def eqB0 (x y : PV) (st : Store) : Option Bool := match x, y with
  | .ref m, .ref n => (lstAt st m).bind fun xs => (lstAt st n).bind fun ys => if xs.all (okD 60) && ys.all (okD 60) then some (peqs xs ys) else none
  | .ref m, y => (lstAt st m).bind fun xs => if xs.all (okD 60) && okD 60 y then some false else none
  | x, .ref n => (lstAt st n).bind fun ys => if okD 60 x && ys.all (okD 60) then some false else none
  | x, y => if okD 60 x && okD 60 y then some (peq x y) else none
/-! ### .. as the rules want it -/
mutual
def toD : PV → PyData
  | .bl b => .bool b
  | .int i => .int i
  | .str x => .str x
  | .tup xs => .tuple (toDs xs)
  | _ => .none
def toDs : List PV → List PyData
  | [] => []
  | x :: xs => toD x :: toDs xs
end
section
variable {K : PySem.W.Frag} {mg : Str → Option Value} {ι : List Addr} {H : Hp}
mutual
theorem dp_of : ∀ (n : Nat) (x : PV) (v : V), okD n x = true → RV K mg ι H x v → Dp K H v (toD x)
  | n, .non, v, _, r => by simp only [RV] at r; subst r; simp only [toD]; exact .non
  | n, .bl b, v, _, r => by simp only [RV] at r; subst r; simp only [toD]; exact .bl b
  | n, .int i, v, _, r => by simp only [RV] at r; subst r; simp only [toD]; exact .int i
  | n, .str x, v, _, r => by simp only [RV] at r; subst r; simp only [toD]; exact .str x
  | 0, .tup xs, v, h, _ => by simp [okD] at h
  | n + 1, .tup xs, v, h, r => by
    simp only [RV] at r
    obtain ⟨a, vs, rfl, q, t⟩ := r
    simp only [okD] at h
    simp only [toD]
    exact .tup q (dps_of n xs vs h t)
  | n, .ref m, v, h, _ => by cases n <;> simp [okD] at h
  | n, .ty m, v, h, _ => by cases n <;> simp [okD] at h
  | n, .cls m, v, h, _ => by cases n <;> simp [okD] at h
  | n, .sls m, v, h, _ => by cases n <;> simp [okD] at h
theorem dps_of : ∀ (n : Nat) (xs : List PV) (vs : List V), xs.all (okD n) = true → RVs K mg ι H xs vs → DpAll K H vs (toDs xs)
  | n, [], vs, _, r => by simp only [RVs] at r; subst r; simp only [toDs]; exact .nil
  | n, x :: xs, vs, h, r => by
    simp only [RVs] at r
    obtain ⟨v, r, rfl, q, t⟩ := r
    simp only [List.all_cons, Bool.and_eq_true] at h
    simp only [toDs]
    exact .cons (dp_of n x v h.1 q) (dps_of n xs r h.2 t)
end
end
mutual
theorem lay_of : ∀ (n : Nat) (x : PV), okD n x = true → (toD x).canLay0 = true ∧ (toD x).depth ≤ n
  | n, .non, _ => by simp [toD, PyData.canLay0, PyData.depth]
  | n, .bl b, _ => by simp [toD, PyData.canLay0, PyData.depth]
  | n, .int i, _ => by simp [toD, PyData.canLay0, PyData.depth]
  | n, .str x, h => by
    have h' : PyData.strOk x = true := by cases n <;> simpa [okD] using h
    simp [toD, PyData.canLay0, PyData.depth, h']
  | 0, .tup xs, h => by simp [okD] at h
  | n + 1, .tup xs, h => by
    simp only [okD] at h
    have q := lays_of n xs h
    simp only [toD, PyData.canLay0, PyData.depth]
    exact ⟨q.1, Nat.succ_le_succ q.2⟩
  | n, .ref m, h => by cases n <;> simp [okD] at h
  | n, .ty m, h => by cases n <;> simp [okD] at h
  | n, .cls m, h => by cases n <;> simp [okD] at h
  | n, .sls m, h => by cases n <;> simp [okD] at h
theorem lays_of : ∀ (n : Nat) (xs : List PV), xs.all (okD n) = true → PyData.canLayAll0 (toDs xs) = true ∧ PyData.depthAll (toDs xs) ≤ n
  | n, [], _ => by simp [toDs, PyData.canLayAll0, PyData.depthAll]
  | n, x :: xs, h => by
    simp only [List.all_cons, Bool.and_eq_true] at h
    have q := lay_of n x h.1
    have p := lays_of n xs h.2
    simp only [toDs, PyData.canLayAll0, PyData.depthAll, Bool.and_eq_true]
    exact ⟨⟨q.1, p.1⟩, Nat.max_le.mpr ⟨q.2, p.2⟩⟩
end
mutual
theorem eqv_of : ∀ (n m : Nat) (x y : PV), okD n x = true → okD m y = true → PyData.eqv (toD x) (toD y) = peq x y
  | n, m, .non, .non, _, _ => by simp [toD, PyData.eqv, peq]
  | n, m, .non, .bl _, _, _ => by simp [toD, PyData.eqv, peq]
  | n, m, .non, .int _, _, _ => by simp [toD, PyData.eqv, peq]
  | n, m, .non, .str _, _, _ => by simp [toD, PyData.eqv, peq]
  | n, m, .non, .tup _, _, _ => by simp [toD, PyData.eqv, peq]
  | n, m, .bl _, .non, _, _ => by simp [toD, PyData.eqv, peq]
  | n, m, .bl _, .bl _, _, _ => by simp [toD, PyData.eqv, peq]
  | n, m, .bl _, .int _, _, _ => by simp [toD, PyData.eqv, peq, Bool.beq_eq_decide_eq]
  | n, m, .bl _, .str _, _, _ => by simp [toD, PyData.eqv, peq]
  | n, m, .bl _, .tup _, _, _ => by simp [toD, PyData.eqv, peq]
  | n, m, .int _, .non, _, _ => by simp [toD, PyData.eqv, peq]
  | n, m, .int _, .bl _, _, _ => by simp [toD, PyData.eqv, peq, Bool.beq_eq_decide_eq]
  | n, m, .int _, .int _, _, _ => by simp [toD, PyData.eqv, peq, Bool.beq_eq_decide_eq]
  | n, m, .int _, .str _, _, _ => by simp [toD, PyData.eqv, peq]
  | n, m, .int _, .tup _, _, _ => by simp [toD, PyData.eqv, peq]
  | n, m, .str _, .non, _, _ => by simp [toD, PyData.eqv, peq]
  | n, m, .str _, .bl _, _, _ => by simp [toD, PyData.eqv, peq]
  | n, m, .str _, .int _, _, _ => by simp [toD, PyData.eqv, peq]
  | n, m, .str _, .str _, _, _ => by simp [toD, PyData.eqv, peq, Bool.beq_eq_decide_eq]
  | n, m, .str _, .tup _, _, _ => by simp [toD, PyData.eqv, peq]
  | n, m, .tup _, .non, _, _ => by simp [toD, PyData.eqv, peq]
  | n, m, .tup _, .bl _, _, _ => by simp [toD, PyData.eqv, peq]
  | n, m, .tup _, .int _, _, _ => by simp [toD, PyData.eqv, peq]
  | n, m, .tup _, .str _, _, _ => by simp [toD, PyData.eqv, peq]
  | 0, m, .tup xs, .tup ys, h, _ => by simp [okD] at h
  | n + 1, 0, .tup xs, .tup ys, _, h => by simp [okD] at h
  | n + 1, m + 1, .tup xs, .tup ys, h, k => by
    simp only [okD] at h k
    simp only [toD, PyData.eqv, peq]
    exact eqvs_of n m xs ys h k
  | n, m, .ref _, _, h, _ => by cases n <;> simp [okD] at h
  | n, m, .ty _, _, h, _ => by cases n <;> simp [okD] at h
  | n, m, .cls _, _, h, _ => by cases n <;> simp [okD] at h
  | n, m, .sls _, _, h, _ => by cases n <;> simp [okD] at h
  | n, m, _, .ref _, _, h => by cases m <;> simp [okD] at h
  | n, m, _, .ty _, _, h => by cases m <;> simp [okD] at h
  | n, m, _, .cls _, _, h => by cases m <;> simp [okD] at h
  | n, m, _, .sls _, _, h => by cases m <;> simp [okD] at h
theorem eqvs_of : ∀ (n m : Nat) (xs ys : List PV), xs.all (okD n) = true → ys.all (okD m) = true → PyData.eqvAll (toDs xs) (toDs ys) = peqs xs ys
  | n, m, [], [], _, _ => by simp [toDs, PyData.eqvAll, peqs]
  | n, m, [], _ :: _, _, _ => by simp [toDs, PyData.eqvAll, peqs]
  | n, m, _ :: _, [], _, _ => by simp [toDs, PyData.eqvAll, peqs]
  | n, m, x :: xs, y :: ys, h, k => by
    simp only [List.all_cons, Bool.and_eq_true] at h k
    simp only [toDs, PyData.eqvAll, peqs, eqv_of n m x y h.1 k.1, eqvs_of n m xs ys h.2 k.2]
end
theorem shaped_of {x : PV} (h : okD 60 x = true) : SeqAt.shaped (toD x) = true := by
  have q := lay_of 60 x h
  unfold SeqAt.shaped
  rw [q.1, Bool.true_and]
  exact decide_eq_true (by omega)
theorem shapeds_of {xs : List PV} (h : xs.all (okD 60) = true) : SeqAt.shaped (.list (toDs xs)) = true := by
  have q := lays_of 60 xs h
  unfold SeqAt.shaped
  simp only [PyData.canLay0, PyData.depth, q.1, Bool.true_and]
  exact decide_eq_true (by omega)
section
variable {K : PySem.W.Frag} {mg : Str → Option Value} {ι : List Addr} {H : Hp} {st : Store}
theorem RS.lstAt (R : RS K mg ι st H) {n : Nat} {xs : List PV} (h : lstAt st n = some xs) : ∃ a vs, ι[n]? = some a ∧ SqL K H a vs ∧ RVs K mg ι H xs vs := by
  unfold Den.lstAt at h
  split at h
  · cases h; rename_i e; exact R.lst (.inl e)
  · cases h; rename_i e; exact R.lst (.inr e)
  · cases h
theorem eqB0_of (R : RS K mg ι st H) {x y : PV} {v w : V} {b : Bool} (h : eqB0 x y st = some b) (rx : RV K mg ι H x v) (ry : RV K mg ι H y w) :
    ∃ d e, Dp K H v d ∧ Dp K H w e ∧ SeqAt.shaped d = true ∧ SeqAt.shaped e = true ∧ PyData.eqv d e = b := by
  have lst : ∀ {n : Nat} {xs : List PV} {v : V}, Den.lstAt st n = some xs → xs.all (okD 60) = true → RV K mg ι H (.ref n) v → Dp K H v (.list (toDs xs)) := fun {n xs v} h1 h2 h3 => by
    obtain ⟨a, vs, ha, q, r⟩ := R.lstAt h1
    simp only [RV] at h3
    obtain ⟨a', ha', rfl⟩ := h3
    have : a = a' := Option.some.inj (ha.symm.trans ha')
    subst this
    exact .lst q (dps_of 60 xs vs h2 r)
  have ne : ∀ {x : PV} {xs : List PyData}, okD 60 x = true → PyData.eqv (toD x) (.list xs) = false ∧ PyData.eqv (.list xs) (toD x) = false := fun {x xs} h => by
    cases x <;> simp [okD, toD, PyData.eqv] at h ⊢
  unfold eqB0 at h
  split at h
  · rename_i m n
    cases h1 : Den.lstAt st m with
    | none => simp [h1] at h
    | some xs =>
      cases h2 : Den.lstAt st n with
      | none => simp [h1, h2] at h
      | some ys =>
        simp only [h1, h2, Option.bind_some] at h
        split at h
        · rename_i hh
          simp only [Bool.and_eq_true] at hh
          cases h
          exact ⟨_, _, lst h1 hh.1 rx, lst h2 hh.2 ry, shapeds_of hh.1, shapeds_of hh.2, by simp only [PyData.eqv]; exact eqvs_of 60 60 xs ys hh.1 hh.2⟩
        · cases h
  · rename_i _ m hn
    cases h1 : Den.lstAt st m with
    | none => simp [h1] at h
    | some xs =>
      simp only [h1, Option.bind_some] at h
      split at h
      · rename_i hh
        simp only [Bool.and_eq_true] at hh
        cases h
        exact ⟨_, _, lst h1 hh.1 rx, dp_of 60 _ w hh.2 ry, shapeds_of hh.1, shaped_of hh.2, (ne hh.2).2⟩
      · cases h
  · rename_i _ n hn
    cases h1 : Den.lstAt st n with
    | none => simp [h1] at h
    | some xs =>
      simp only [h1, Option.bind_some] at h
      split at h
      · rename_i hh
        simp only [Bool.and_eq_true] at hh
        cases h
        exact ⟨_, _, dp_of 60 _ v hh.1 rx, lst h1 hh.2 ry, shaped_of hh.1, shapeds_of hh.2, (ne hh.1).1⟩
      · cases h
  · split at h
    · rename_i hh
      simp only [Bool.and_eq_true] at hh
      cases h
      exact ⟨_, _, dp_of 60 x v hh.1 rx, dp_of 60 y w hh.2 ry, shaped_of hh.1, shaped_of hh.2, eqv_of 60 60 x y hh.1 hh.2⟩
    · cases h
end
end Den

/-! DenMu: a tuple, so many times: any number from 0 on. -/
namespace Den
open PySem PySem.Spec PyProof.Rows L2
theorem few_times (a : Addr) (ts : Array Value) (n : Nat) (od : Option Addr) (os : Array (Option Value)) (k : Int) (tk : Tok) (hk : 0 ≤ k ∧ k < 1000) (he : (ts.isEmpty || k == 1) = true ∨ k = 0) :
    Meets (Builtin.«tuple.__mul__» ⟨[.ref a, .int k tk], []⟩) (fun _ R s => s.heap.get? a = some { cls := .type "tuple", dict := od, data := .seq ts n, slots := os } ∧
      ((ts.isEmpty || k == 1) = true → R (.ok (.ret (.ref a))) s) ∧
      ((ts.isEmpty || k == 1) = false → k = 0 → R (.ok (.ret (.ref s.heap.objs.size))) { s with heap := s.heap.push { cls := .type "tuple", data := .seq #[] }, toks := s.toks })) :=
  .of_wp fun prog w A R s h => by
    obtain ⟨hp, g, d, tks, os'⟩ := s
    obtain ⟨hl, same, none'⟩ := h
    have ix := AutoSeq1.idx_int
    have small : (decide (k < -(2 ^ 63)) || decide (k ≥ 2 ^ 63)) = false := by
      rw [decide_eq_false (by omega), decide_eq_false (by omega)] <;> rfl
    wp_walk using wpAny_loadPart' hl
    refine wpAny_ite_false (decide_eq_false (by rw [small]; exact Bool.false_ne_true)) ?_
    wp_walk using wpAny_loadPart' hl
    cases hb : (ts.isEmpty || k == 1)
    · have hk0 : k = 0 := he.resolve_left (by rw [hb]; exact Bool.false_ne_true)
      have least : (decide (k ≤ 0) || ts.isEmpty) = true := by rw [hk0]; rfl
      subst hk0
      refine wpAny_ite_false (decide_eq_false Bool.false_ne_true) ?_
      wp_walk using wpAny_loadPart' hl
      exact ⟨_, rfl, none' hb rfl⟩
    · refine wpAny_ite_true (decide_eq_true rfl) ?_
      wp_walk using wpAny_loadPart' hl
      exact ⟨_, rfl, same hb⟩
def cTimes (K : PySem.W.Frag) : R2 := fun x y H Q => ∃ a k xs, x = .ref a ∧ y = .int k ∧ SqT K H a xs ∧ xs.length ≤ 1000 ∧ 0 ≤ k ∧ k < 1000 ∧ (xs = [] ∨ k = 1 → Q (.ref a) H) ∧
  (xs ≠ [] → k ≠ 1 → ∀ p, H p = none → Q (.ref p) (upd H p (.tup (List.replicate k.toNat xs).flatten)))
section
variable {X : Cx}
theorem op_times : OpR X (binaryOp .Mult) (cTimes X.K) := by
  intro pins s σ H x y v u Q I rx ry h
  obtain ⟨a, k, xs, rfl, rfl, hT, hz, h0, h1, q0, q1⟩ := h
  by_cases hm : xs ≠ [] ∧ 2 ≤ k
  · exact op_repT pins s σ H _ _ v u Q I rx ry ⟨a, k, xs, rfl, rfl, hT, hm.1, hm.2, by omega, hz, q1 hm.1 (by omega)⟩
  · cases rx
    obtain ⟨tk, rfl⟩ := ry
    obtain ⟨ts, r, ⟨⟨cls, od, dat, os⟩, hg, hc, n, hd⟩, -⟩ := I.tuple hT
    simp only at hc hd
    subst hc hd
    have emp : ts.toArray.isEmpty = decide (xs = []) := by
      cases r with
      | nil => rfl
      | cons _ _ => rfl
    have he : (ts.toArray.isEmpty || k == 1) = true ∨ k = 0 := by
      rw [emp]
      by_cases e : xs = []
      · exact .inl (by rw [decide_eq_true e]; rfl)
      · by_cases e1 : k = 1
        · exact .inl (by rw [e1]; simp)
        · exact .inr (by have : ¬ 2 ≤ k := fun c => hm ⟨e, c⟩; omega)
    refine wpAny_binaryOp_repeat_ref (T := "tuple") (U := "int") (by decide) ⟨_, hg, rfl⟩ (fun s' => typeIs_int s' k tk) noFill_tuple_mul F.fills_int_mul F.slot_int_rmul repeat_tuple F.slot_int_index.lookup ?_
    refine call_meets F.slot_int_rmul (typeIs_int s k tk) F.entry_int_rmul (F.args_int_rmul_2 _ _) (int_rmul_tuple k tk a ts.toArray n od os) ⟨hg, rfl, ⟨_, hg, rfl⟩, ?_⟩
    refine call_meets F.slot_tuple_mul ⟨_, hg, rfl⟩ F.entry_tuple_mul (F.args_tuple_mul_2 _ _) (few_times a ts.toArray n od os k tk ⟨h0, h1⟩ he) ⟨hg, fun hb => ?_, fun hb hk => ?_⟩
    · refine ⟨.ref a, H, I, rfl, q0 ?_⟩
      rw [emp, Bool.or_eq_true, decide_eq_true_eq, beq_iff_eq] at hb
      exact hb
    · rw [emp, Bool.or_eq_false_iff, decide_eq_false_iff_not, beq_eq_false_iff_ne] at hb
      subst hk
      refine ⟨.ref s.heap.objs.size, _, I.laid (t' := s.toks) (o := .tup []) (fun b ob q => Heap.get?_push_of_some _ q) (Nat.le_refl _) ?_, rfl, q1 hb.1 hb.2 _ (I.hok.fresh (Nat.le_refl _))⟩
      exact ⟨Nat.zero_le _, _, .nil, IsTup.new _ _⟩
end
end Den

/-! DenDe: dicts compared, their values data. -/
namespace Den
open PySem PySem.Spec PyProof.Rows L2
/-- the pairs of one dict looked up in the other -/
inductive HitsD (K : PySem.W.Frag) (H : Hp) (ls : List (Key × V)) : List (Key × V) → Bool → Prop
  | nil : HitsD K H ls [] true
  | miss {k : Key} {v : V} {r : List (Key × V)} : valV ls k = none → HitsD K H ls ((k, v) :: r) false
  | hit {k : Key} {v u : V} {r : List (Key × V)} {d e : PyData} {b : Bool} : valV ls k = some u → Dp K H v d → Dp K H u e → d.canLay0 = true → e.canLay0 = true → d.depth ≤ 60 → HitsD K H ls r b → HitsD K H ls ((k, v) :: r) (PyData.eqv d e && b)
def rDicC (K : PySem.W.Frag) (neg : Bool) : R2 := fun x y H Q => ∃ a b ks ls r, x = .ref a ∧ y = .ref b ∧ Rd H a (.dK ks) ∧ Rd H b (.dK ls) ∧ HitsD K H ls ks r ∧ Q (.bl (if neg then !((ks.length == ls.length) && r) else (ks.length == ls.length) && r)) H
theorem hitsD_run {X : Cx} {pins : List (Addr × Obj)} {σ : L2.St} {H : Hp} {s : Shared} (I : Inv X pins σ H s) {A : Around} (hu : A.units + 60 < cLine) {ls : List (Key × V)} {vb : List (Key × Value)} (rb : KV ls vb) : ∀ {ks : List (Key × V)} {va : List (Key × Value)} {r : Bool}, KV ks va → HitsD X.K H ls ks r → PySem.W.KeqHits A s vb va r
  | [], va, r, ra, h => by
    unfold KV at ra
    cases ra
    cases h
    exact .nil
  | (k, v) :: ks, va, r, ra, h => by
    have ra' := ra
    unfold KV at ra
    cases ra with
    | @cons _ q _ qs h0 t =>
      obtain ⟨key, w⟩ := q
      obtain ⟨h1, h2⟩ := h0
      have h1' : k = key := h1
      subst h1'
      cases h with
      | miss hn =>
        refine .miss ?_
        have rr : RelO (valV ls k) (valueAt vb k) := rb.val k
        rw [hn] at rr
        cases hv : valueAt vb k with
        | none => rfl
        | some u => rw [hv] at rr; cases rr
      | hit hv dv du cv cu dp hr =>
        have rr : RelO (valV ls k) (valueAt vb k) := rb.val k
        rw [hv] at rr
        obtain ⟨y, hy, ry⟩ := rr.some_of
        obtain ⟨as, r1⟩ := Dp.reads I _ _ _ dv h2
        obtain ⟨bs, r2⟩ := Dp.reads I _ _ _ du ry
        exact .hit hy (SeqAt.eqAt_reads _ _ A s _ _ as bs r1 r2 cv cu (by omega)) (hitsD_run I hu rb t hr)
section
variable {X : Cx}
theorem op_eqDic (hu : X.A.units + 64 < cLine) : OpR X (compareOp .Eq) (rDicC X.K false) := by
  intro pins s σ H x y v u Q I rx ry h
  obtain ⟨a, b, ks, ls, r, rfl, rfl, ha, hb, hh, q⟩ := h
  obtain rfl : v = Value.ref a := rx
  obtain rfl : u = Value.ref b := ry
  obtain ⟨_, ya, va, ra, da⟩ := dk_rd I.hok ha
  obtain ⟨_, yb, vb, rb, db⟩ := dk_rd I.hok hb
  refine PySem.W.keq_eq (knd := mixKind X.prog X.w) (r := r) ya yb da db (by omega) (fun _ => hitsD_run I (A := X.A.in1) (by show X.A.units + 1 + 60 < cLine; omega) rb ra hh) ⟨.bl _, H, I, rfl, ?_⟩
  rw [← ra.length, ← rb.length]
  exact q
theorem op_neDic (hu : X.A.units + 64 < cLine) : OpR X (compareOp .NotEq) (rDicC X.K true) := by
  intro pins s σ H x y v u Q I rx ry h
  obtain ⟨a, b, ks, ls, r, rfl, rfl, ha, hb, hh, q⟩ := h
  obtain rfl : v = Value.ref a := rx
  obtain rfl : u = Value.ref b := ry
  obtain ⟨_, ya, va, ra, da⟩ := dk_rd I.hok ha
  obtain ⟨_, yb, vb, rb, db⟩ := dk_rd I.hok hb
  refine PySem.W.keq_ne (knd := mixKind X.prog X.w) (r := r) ya yb da db (by omega) (fun _ => hitsD_run I (A := X.A.in1) (by show X.A.units + 1 + 60 < cLine; omega) rb ra hh) ⟨.bl _, H, I, rfl, ?_⟩
  rw [← ra.length, ← rb.length]
  exact q
end
end Den

/-! DenJ: the operators are what the rules say. -/
namespace Den
open PySem PySem.Spec PyProof.Rows L2
section
variable {K : PySem.W.Frag} {mg : Str → Option Value}
theorem sem_sub : Sem2 K mg fSub (rI0 fun i j => .int (i - j)) := fun ι st H x y v w z st' Q R rx ry h q => by
  unfold fSub at h
  split at h
  · rename_i i j e
    simp only [List.cons.injEq, and_true] at e
    obtain ⟨rfl, rfl⟩ := e
    cases h
    exact ⟨i, j, rx, ry, q ι _ H .refl R rfl⟩
  · cases h
theorem sem_add : Sem2 K mg fAdd (fun x y H Q => rI0 (fun i j => .int (i + j)) x y H Q ∨ (∃ i j, x = .str i ∧ y = .str j ∧ i.length + j.length ≤ sizeLine ∧ Q (.str (i ++ j)) H) ∨ rCatA K x y H Q ∨ rCat x y H Q) := fun ι st H x y v w z st' Q R rx ry h q => by
  unfold fAdd at h
  split at h
  · rename_i i j e
    simp only [List.cons.injEq, and_true] at e
    obtain ⟨rfl, rfl⟩ := e
    cases h
    exact .inl ⟨i, j, rx, ry, q ι _ H .refl R rfl⟩
  · rename_i a b e
    simp only [List.cons.injEq, and_true] at e
    obtain ⟨rfl, rfl⟩ := e
    split at h
    · rename_i hl
      cases h
      exact .inr (.inl ⟨a, b, rx, ry, sixteen hl, q ι _ H .refl R rfl⟩)
    · cases h
  · rename_i xs ys e
    simp only [List.cons.injEq, and_true] at e
    obtain ⟨rfl, rfl⟩ := e
    split at h
    · rename_i hl
      cases h
      simp only [RV] at rx ry
      obtain ⟨a, vs, rfl, ha, ra⟩ := rx
      obtain ⟨b, ws, rfl, hb, rb⟩ := ry
      have l1 := ra.length
      have l2 := rb.length
      refine .inr (.inr (.inl ⟨a, b, vs, ws, rfl, rfl, ha, hb, sixteen (by omega), fun e => ?_, fun _ e => ?_, fun _ _ p hp => ?_⟩))
      · subst e
        have : xs = [] := List.length_eq_zero_iff.mp l1
        subst this
        exact q ι _ H .refl R (by simp only [RV]; exact ⟨b, ws, rfl, hb, rb⟩)
      · subst e
        have : ys = [] := List.length_eq_zero_iff.mp l2
        subst this
        exact q ι _ H .refl R (by simp only [RV]; exact ⟨a, vs, rfl, ha, by rw [List.append_nil]; exact ra⟩)
      · refine q ι _ _ (.new hp) (R.new hp) ?_
        simp only [RV]
        exact ⟨p, vs ++ ws, rfl, .inl (.inl upd_same), (RVs.append ra rb).le (Le.new (ι := ι) hp).ex⟩
    · cases h
  · rename_i m n e
    simp only [List.cons.injEq, and_true] at e
    obtain ⟨rfl, rfl⟩ := e
    split at h
    · rename_i xs ys h1 h2
      split at h
      · rename_i hl
        cases h
        obtain ⟨a, ha, vs, ea, ra⟩ := R.ob m _ h1
        obtain ⟨b, hb, ws, eb, rb⟩ := R.ob n _ h2
        simp only [RV] at rx ry
        obtain ⟨a', ha', rfl⟩ := rx
        obtain ⟨b', hb', rfl⟩ := ry
        have e1 : a = a' := Option.some.inj (ha.symm.trans ha')
        have e2 : b = b' := Option.some.inj (hb.symm.trans hb')
        subst e1; subst e2
        have l1 := ra.length
        have l2 := rb.length
        refine .inr (.inr (.inr ⟨a, b, vs, ws, rfl, rfl, ea, eb, sixteen (by omega), fun p hp => ?_⟩))
        have hn := R.not_mem hp
        refine q (ι ++ [p]) _ _ (.add hp) ((R.new hp).take hn ⟨vs ++ ws, upd_same, (RVs.append ra rb).le (Le.add (o := .lst (vs ++ ws)) hp).ex⟩) ?_
        simp only [RV]
        exact ⟨p, by rw [List.getElem?_append_right (by rw [R.len]; exact Nat.le_refl _), R.len, Nat.sub_self]; rfl, rfl⟩
      · cases h
    · cases h
  · cases h
theorem natAbs_log2 {i : Int} (h : i.natAbs < 10 ^ 200) : i.natAbs.log2 < 700 :=
  PySem.Flt.log2_lt_of (by decide) (Nat.lt_of_lt_of_le h (by decide +kernel))
theorem RVs.times {ι : List Addr} {H : Hp} {xs : List PV} {vs : List V} (h : RVs K mg ι H xs vs) : ∀ n, RVs K mg ι H (List.replicate n xs).flatten (List.replicate n vs).flatten
  | 0 => by simp only [List.replicate_zero, List.flatten_nil, RVs]
  | n + 1 => by
    rw [List.replicate_succ, List.replicate_succ, List.flatten_cons, List.flatten_cons]
    exact h.append (RVs.times h n)
theorem sem_mul : Sem2 K mg fMul (fun x y H Q => rI CMul (fun i j => .int (i * j)) x y H Q ∨ rI CMulW (fun i j => .int (i * j)) x y H Q ∨ cTimes K x y H Q) := fun ι st H x y v w z st' Q R rx ry h q => by
  unfold fMul at h
  split at h
  · rename_i i j e
    simp only [List.cons.injEq, and_true] at e
    obtain ⟨rfl, rfl⟩ := e
    split at h
    · rename_i hk
      cases h
      rcases hk with hk | hk | ⟨h1, h2⟩
      · exact .inl ⟨i, j, rx, ry, .inl hk, q ι _ H .refl R rfl⟩
      · exact .inl ⟨i, j, rx, ry, .inr hk, q ι _ H .refl R rfl⟩
      · refine .inr (.inl ⟨i, j, rx, ry, ?_, q ι _ H .refl R rfl⟩)
        have a := natAbs_log2 h1
        have b := natAbs_log2 h2
        show i.natAbs.log2 + j.natAbs.log2 < 1000000
        omega
    · cases h
  · rename_i xs k e
    simp only [List.cons.injEq, and_true] at e
    obtain ⟨rfl, rfl⟩ := e
    split at h
    · rename_i hl
      cases h
      simp only [RV] at rx
      obtain ⟨a, vs, rfl, ha, ra⟩ := rx
      have len := ra.length
      refine .inr (.inr ⟨a, k, vs, rfl, ry, ha, by omega, hl.2.1, hl.2.2, fun e => ?_, fun _ _ p hp => ?_⟩)
      · refine q ι _ H .refl R ?_
        simp only [RV]
        refine ⟨a, vs, rfl, ha, ?_⟩
        rcases e with e | e
        · subst e
          have : xs = [] := List.length_eq_zero_iff.mp len
          subst this
          have : ∀ n, (List.replicate n ([] : List PV)).flatten = [] := fun n => by simp
          rw [this]
          exact ra
        · subst e
          have : (List.replicate (1 : Int).toNat xs).flatten = xs := by simp
          rw [this]
          exact ra
      · refine q ι _ _ (.new hp) (R.new hp) ?_
        simp only [RV]
        exact ⟨p, _, rfl, .inl (.inl upd_same), (RVs.times ra k.toNat).le (Le.new (ι := ι) hp).ex⟩
    · cases h
  · cases h
theorem sem_div : Sem2 K mg fDiv (rI CDivW fun i j => .int (i / j)) := fun ι st H x y v w z st' Q R rx ry h q => by
  unfold fDiv at h
  split at h
  · rename_i i j e
    simp only [List.cons.injEq, and_true] at e
    obtain ⟨rfl, rfl⟩ := e
    split at h
    · rename_i hk
      cases h
      refine ⟨i, j, rx, ry, ⟨hk.1, ?_⟩, q ι _ H .refl R rfl⟩
      have h2 := hk.2
      have h1 := hk.1
      have : j.natAbs < 10 ^ 200 := by
        have e : ((10 : Int) ^ 200) = ((10 ^ 200 : Nat) : Int) := by rw [Int.natCast_pow]; rfl
        rw [e] at h2
        omega
      have a := natAbs_log2 this
      omega
    · cases h
  · cases h
theorem sem_mod : Sem2 K mg fMod (rI (fun _ j => 0 < j) fun i j => .int (i % j)) := fun ι st H x y v w z st' Q R rx ry h q => by
  unfold fMod at h
  split at h
  · rename_i i j e
    simp only [List.cons.injEq, and_true] at e
    obtain ⟨rfl, rfl⟩ := e
    split at h
    · rename_i hk
      cases h
      exact ⟨i, j, rx, ry, hk, q ι _ H .refl R rfl⟩
    · cases h
  · cases h
theorem sem_pow : Sem2 K mg fPow (rI CPow fun i j => .int (i ^ j.toNat)) := fun ι st H x y v w z st' Q R rx ry h q => by
  unfold fPow at h
  split at h
  · rename_i i j e
    simp only [List.cons.injEq, and_true] at e
    obtain ⟨rfl, rfl⟩ := e
    split at h
    · rename_i hk
      cases h
      exact ⟨i, j, rx, ry, hk, q ι _ H .refl R rfl⟩
    · cases h
  · cases h
theorem sem_neg : Sem1 K mg fNeg (rU fun i => .int (-i)) := fun ι st H x v z st' Q R rx h q => by
  unfold fNeg at h
  split at h
  · rename_i i e
    simp only [List.cons.injEq, and_true] at e
    obtain rfl := e
    cases h
    exact ⟨i, rx, q ι _ H .refl R rfl⟩
  · cases h
/-- the order of two ints, of two texts -/
theorem sem_ltI {f : Fn} {p : Int → Int → Bool} (hf : ∀ x y st r, f [x, y] st = some r → ∃ i j, x = .int i ∧ y = .int j ∧ r = (.bl (p i j), st)) : Sem2 K mg f (rI0 fun i j => .bl (p i j)) := fun ι st H x y v w z st' Q R rx ry h q => by
  obtain ⟨i, j, rfl, rfl, e⟩ := hf _ _ _ _ h
  cases e
  exact ⟨i, j, rx, ry, q ι _ H .refl R rfl⟩
theorem sem_lt : Sem2 K mg fLt (fun x y H Q => rI0 (fun i j => .bl (decide (i < j))) x y H Q ∨ (∃ i j, x = .str i ∧ y = .str j ∧ Q (.bl (decide (i.cps.toList < j.cps.toList))) H)) := fun ι st H x y v w z st' Q R rx ry h q => by
  unfold fLt at h
  split at h
  · rename_i i j e
    simp only [List.cons.injEq, and_true] at e
    obtain ⟨rfl, rfl⟩ := e
    cases h
    exact .inl ⟨i, j, rx, ry, q ι _ H .refl R rfl⟩
  · rename_i i j e
    simp only [List.cons.injEq, and_true] at e
    obtain ⟨rfl, rfl⟩ := e
    cases h
    exact .inr ⟨i, j, rx, ry, q ι _ H .refl R rfl⟩
  · cases h
theorem sem_le : Sem2 K mg fLe (fun x y H Q => rI0 (fun i j => .bl (decide (i ≤ j))) x y H Q ∨ (∃ i j, x = .str i ∧ y = .str j ∧ Q (.bl (!decide (j.cps.toList < i.cps.toList))) H)) := fun ι st H x y v w z st' Q R rx ry h q => by
  unfold fLe at h
  split at h
  · rename_i i j e
    simp only [List.cons.injEq, and_true] at e
    obtain ⟨rfl, rfl⟩ := e
    cases h
    exact .inl ⟨i, j, rx, ry, q ι _ H .refl R rfl⟩
  · rename_i i j e
    simp only [List.cons.injEq, and_true] at e
    obtain ⟨rfl, rfl⟩ := e
    cases h
    exact .inr ⟨i, j, rx, ry, q ι _ H .refl R rfl⟩
  · cases h
theorem sem_gt : Sem2 K mg fGt (rI0 fun i j => .bl (decide (j < i))) := sem_ltI fun x y st r h => by
  unfold fGt at h
  split at h
  · rename_i i j e
    simp only [List.cons.injEq, and_true] at e
    obtain ⟨rfl, rfl⟩ := e
    cases h
    exact ⟨i, j, rfl, rfl, rfl⟩
  · cases h
theorem sem_ge : Sem2 K mg fGe (rI0 fun i j => .bl (decide (j ≤ i))) := sem_ltI fun x y st r h => by
  unfold fGe at h
  split at h
  · rename_i i j e
    simp only [List.cons.injEq, and_true] at e
    obtain ⟨rfl, rfl⟩ := e
    cases h
    exact ⟨i, j, rfl, rfl, rfl⟩
  · cases h
theorem rv_non {ι : List Addr} {H : Hp} {x : PV} {v : V} (r : RV K mg ι H x v) : decide (v = .non) = decide (x = .non) := by
  cases x with
  | non => simp only [RV] at r; subst r; rfl
  | bl b => simp only [RV] at r; subst r; rfl
  | int b => simp only [RV] at r; subst r; rfl
  | str b => simp only [RV] at r; subst r; rfl
  | tup b => simp only [RV] at r; obtain ⟨a, _, rfl, _⟩ := r; rfl
  | ref b => simp only [RV] at r; obtain ⟨a, _, rfl⟩ := r; rfl
  | ty b => simp only [RV] at r; subst r; rfl
  | cls b => simp only [RV] at r; obtain ⟨a, _, rfl⟩ := r; rfl
  | sls b => simp only [RV] at r; obtain ⟨a, rfl, _⟩ := r; rfl
theorem sem_isN : Sem2 K mg fIsN (fun x y H Q => y = .non ∧ Q (.bl (decide (x = .non))) H) := fun ι st H x y v w z st' Q R rx ry h q => by
  unfold fIsN at h
  split at h
  · rename_i x' e
    simp only [List.cons.injEq, and_true] at e
    obtain ⟨rfl, rfl⟩ := e
    cases h
    exact ⟨ry, by rw [rv_non rx]; exact q ι _ H .refl R rfl⟩
  · cases h
theorem sem_notN : Sem2 K mg fNotN (fun x y H Q => y = .non ∧ Q (.bl (!decide (x = .non))) H) := fun ι st H x y v w z st' Q R rx ry h q => by
  unfold fNotN at h
  split at h
  · rename_i x' e
    simp only [List.cons.injEq, and_true] at e
    obtain ⟨rfl, rfl⟩ := e
    cases h
    exact ⟨ry, by rw [rv_non rx]; exact q ι _ H .refl R rfl⟩
  · cases h
end

/-! ### in -/
/-- equal as Python compares, of things without parts -/
def flatP : PV → Bool
  | .non => true | .bl _ => true | .int _ => true | .str _ => true
  | _ => false
def inP (x : PV) (xs : List PV) : Bool := xs.any fun y => peq y x
def getK (x : PV) (kvs : List (Key × PV)) : Option (Option PV) := (keyOf x).map fun k => getP k kvs
def inB (x y : PV) (st : Store) : Option Bool := match y with
  | .tup ys => if flatP x && ys.all flatP then some (inP x ys) else none
  | .str t => match x with
    | .str s => some (!(Builtin.Str.occurrences t s 0 t.length 1).isEmpty)
    | _ => none
  | .ref n => match st[n]? with
    | some (.lst ys) => if flatP x && ys.all flatP then some (inP x ys) else if okD 60 x && ys.all (okD 60) then some (inP x ys) else none
    | some (.fls ys) => if flatP x && ys.all flatP then some (inP x ys) else none
    | some (.dic _ kvs) => (getK x kvs).map Option.isSome
    | _ => none
  | _ => none
def fIn : Fn
  | [x, y], st => (inB x y st).map fun b => (.bl b, st)
  | _, _ => none
def fNotIn : Fn
  | [x, y], st => (inB x y st).map fun b => (.bl (!b), st)
  | _, _ => none
/-- what an item of a sequence, a key of a dict gives -/
def ixB (x y : PV) (st : Store) : Option PV := match x, y with
  | .tup xs, .int i => atI xs i
  | .str s, .int i => if s.length ≤ 16000000 then (atI s.cps.toList i).map fun c => .str ⟨#[c]⟩ else none
  | .ref n, y => match st[n]? with
    | some (.lst xs) => match y with
      | .int i => atI xs i
      | _ => none
    | some (.fls xs) => match y with
      | .int i => atI xs i
      | _ => none
    | some (.dic _ kvs) => (getK y kvs).bind id
    | _ => none
  | _, _ => none
def fIx : Fn
  | [x, y], st => (ixB x y st).map fun v => (v, st)
  | _, _ => none
/-- the reading of y in x by the rules -/
def rInA (K : PySem.W.Frag) (neg : Bool) : R2 := fun x y H Q => rIn K neg x y H Q ∨ (∃ i j, x = .str i ∧ y = .str j ∧ Q (.bl (if neg then !(!(Builtin.Str.occurrences j i 0 j.length 1).isEmpty) else !(Builtin.Str.occurrences j i 0 j.length 1).isEmpty)) H) ∨
  (∃ a ov, y = .ref a ∧ DGet H a x ov ∧ Q (.bl (if neg then !ov.isSome else ov.isSome)) H) ∨
  ∃ d ds, Dp K H x d ∧ Dp K H y (.list ds) ∧ SeqAt.shaped d = true ∧ SeqAt.shaped (.list ds) = true ∧ Q (.bl (if neg then !(ds.any fun z => PyData.eqv z d) else ds.any fun z => PyData.eqv z d)) H
theorem op_inA {X : Cx} (hu : X.A.units + 65 < cLine) : OpR X (compareOp .In) (rInA X.K false) := by
  intro pins s σ H x y v u Q I rx ry h
  rcases h with h | h | h | h
  · exact op_in_seq pins s σ H x y v u Q I rx ry h
  · exact op_in_str pins s σ H x y v u Q I rx ry h
  · obtain ⟨a, ov, rfl, g, q⟩ := h
    cases ry
    exact d_in (by omega) I g rx fun s' I' => ⟨.bl ov.isSome, H, I', rfl, by simpa using q⟩
  · obtain ⟨d, ds, h1, h2, h3, h4, q⟩ := h
    exact op_inD hu pins s σ H x y v u Q I rx ry ⟨d, ds, h1, h2, h3, h4, q⟩
theorem op_notInA {X : Cx} (hu : X.A.units + 65 < cLine) : OpR X (compareOp .NotIn) (rInA X.K true) := by
  intro pins s σ H x y v u Q I rx ry h
  rcases h with h | h | h | h
  · exact op_notIn_seq pins s σ H x y v u Q I rx ry h
  · exact op_notin_str pins s σ H x y v u Q I rx ry h
  · obtain ⟨a, ov, rfl, g, q⟩ := h
    cases ry
    exact d_notIn (by omega) I g rx fun s' I' => ⟨.bl (!ov.isSome), H, I', rfl, by simpa using q⟩
  · obtain ⟨d, ds, h1, h2, h3, h4, q⟩ := h
    exact op_notInD hu pins s σ H x y v u Q I rx ry ⟨d, ds, h1, h2, h3, h4, q⟩
def rIxD : R2 := fun x y H Q => ∃ a v, x = .ref a ∧ DGet H a y (some v) ∧ Q v H
theorem ix_dict {X : Cx} (hu : X.A.units + 1 < cLine) : IxR X rIxD := by
  intro value slice pins s σ H x y v u Q I rx ry h hs
  obtain ⟨a, z, rfl, g, q⟩ := h
  cases rx
  exact tail_any (dict_typeIs I g) PySem.F.slot_dict_getitem.lookup (d_getItem hu I g ry fun w' s' I' rw' => ⟨z, H, I', rw', q⟩) hs
section
variable {K : PySem.W.Frag} {mg : Str → Option Value} {ι : List Addr} {H : Hp} {st : Store}
theorem flat_rv {x : PV} {v : V} (h : flatP x = true) (r : RV K mg ι H x v) : flatV v = true := by
  cases x <;> simp only [RV, flatP] at h r <;> first | (subst r; rfl) | cases h
theorem flats_rv : ∀ {xs : List PV} {vs : List V}, xs.all flatP = true → RVs K mg ι H xs vs → vs.all flatV = true
  | [], vs, _, r => by simp only [RVs] at r; subst r; rfl
  | x :: xs, vs, h, r => by
    simp only [RVs] at r
    obtain ⟨v, r, rfl, q, t⟩ := r
    simp only [List.all_cons, Bool.and_eq_true] at h ⊢
    exact ⟨flat_rv h.1 q, flats_rv h.2 t⟩
theorem eqV_peq {x y : PV} {v w : V} (hx : flatP x = true) (hy : flatP y = true) (r : RV K mg ι H x v) (q : RV K mg ι H y w) : eqV w v = peq y x := by
  cases x <;> cases y <;> simp only [RV, flatP] at hx hy r q <;> first | (subst r; subst q; simp [eqV, peq, Bool.beq_eq_decide_eq]; done) | exact absurd hx Bool.false_ne_true | exact absurd hy Bool.false_ne_true
theorem inV_inP {x : PV} {v : V} (hx : flatP x = true) (r : RV K mg ι H x v) : ∀ {ys : List PV} {ws : List V}, ys.all flatP = true → RVs K mg ι H ys ws → inV v ws = inP x ys
  | [], ws, _, q => by simp only [RVs] at q; subst q; rfl
  | y :: ys, ws, h, q => by
    simp only [RVs] at q
    obtain ⟨w, r', rfl, q, t⟩ := q
    simp only [List.all_cons, Bool.and_eq_true] at h
    have ih := inV_inP hx r h.2 t
    unfold inV inP at ih ⊢
    rw [List.any_cons, List.any_cons, ih, eqV_peq hx h.1 r q]
theorem RPs.find {k : Key} : ∀ {xs : List (Key × PV)} {vs : List (Key × V)}, RPs K mg ι H xs vs → (getP k xs = none ∧ valV vs k = none) ∨ ∃ x v, getP k xs = some x ∧ valV vs k = some v ∧ RV K mg ι H x v
  | [], vs, h => by simp only [RPs] at h; subst h; exact .inl ⟨rfl, rfl⟩
  | y :: ys, vs, h => by
    simp only [RPs] at h
    obtain ⟨v, r, rfl, q, t⟩ := h
    by_cases e : y.1 = k
    · refine .inr ⟨y.2, v, ?_, valV_pos e, q⟩
      simp [getP, List.find?_cons, e]
    · have ih := RPs.find (k := k) t
      have e1 : getP k (y :: ys) = getP k ys := by simp [getP, List.find?_cons, e]
      have e2 : valV ((y.1, v) :: r) k = valV r k := valV_neg e
      rw [e1, e2]
      exact ih
/-- a dict of the store, read -/
theorem RS.dic (R : RS K mg ι st H) {n : Nat} {lk : Bool} {kvs : List (Key × PV)} (h : st[n]? = some (.dic lk kvs)) : ∃ a kw, ι[n]? = some a ∧ Rd H a (.dK kw) ∧ RPs K mg ι H kvs kw := by
  cases lk with
  | false => obtain ⟨a, ha, kw, e, r⟩ := R.ob n _ h; exact ⟨a, kw, ha, .inl e, r⟩
  | true => obtain ⟨a, ha, o, kw, e, r⟩ := R.ob n _ h; exact ⟨a, kw, ha, .inr ⟨o, e⟩, r⟩
theorem any_eqv {x : PV} (hx : okD 60 x = true) : ∀ {ys : List PV}, ys.all (okD 60) = true → ((toDs ys).any fun z => PyData.eqv z (toD x)) = inP x ys
  | [], _ => by simp [toDs, inP]
  | y :: ys, h => by
    simp only [List.all_cons, Bool.and_eq_true] at h
    have ih := any_eqv hx h.2
    unfold inP at ih ⊢
    simp only [toDs, List.any_cons, ih, eqv_of 60 60 y x h.1 hx]
theorem in_of {neg : Bool} {Q : VK} (R : RS K mg ι st H) {x y : PV} {v w : V} {b : Bool} (h : inB x y st = some b) (rx : RV K mg ι H x v) (ry : RV K mg ι H y w) (q : Q (.bl (if neg then !b else b)) H) : rInA K neg v w H Q := by
  unfold inB at h
  split at h
  · rename_i ys
    split at h
    · rename_i hh
      simp only [Bool.and_eq_true] at hh
      cases h
      simp only [RV] at ry
      obtain ⟨a, vs, rfl, ha, ra⟩ := ry
      exact .inl ⟨a, vs, rfl, .inr ha, flat_rv hh.1 rx, flats_rv hh.2 ra, by rw [inV_inP hh.1 rx hh.2 ra]; exact q⟩
    · cases h
  · rename_i t
    split at h
    · rename_i s
      cases h
      exact .inr (.inl ⟨s, t, rx, ry, q⟩)
    · cases h
  · rename_i n
    simp only [RV] at ry
    obtain ⟨a, ha, rfl⟩ := ry
    have lst : ∀ ys, (st[n]? = some (.lst ys) ∨ st[n]? = some (.fls ys)) → flatP x = true → ys.all flatP = true → inP x ys = b → rInA K neg v (.ref a) H Q := fun ys hs h1 h2 h3 => by
      obtain ⟨a', vs, ha', hq, ra⟩ := R.lst hs
      have : a' = a := Option.some.inj (ha'.symm.trans ha)
      subst this
      exact .inl ⟨a', vs, rfl, .inl hq, flat_rv h1 rx, flats_rv h2 ra, by rw [inV_inP h1 rx h2 ra, h3]; exact q⟩
    split at h
    · rename_i ys hs
      split at h
      · rename_i hh
        simp only [Bool.and_eq_true] at hh
        exact lst ys (.inl hs) hh.1 hh.2 (Option.some.inj h)
      · split at h
        · rename_i hh
          simp only [Bool.and_eq_true] at hh
          cases h
          obtain ⟨a', vs, ha', hq, ra⟩ := R.lst (.inl hs)
          have : a' = a := Option.some.inj (ha'.symm.trans ha)
          subst this
          refine .inr (.inr (.inr ⟨toD x, toDs ys, dp_of 60 x v hh.1 rx, .lst hq (dps_of 60 ys vs hh.2 ra), ?_, ?_, ?_⟩))
          · have := lay_of 60 x hh.1
            unfold SeqAt.shaped
            have h2 := this.2
            rw [this.1, decide_eq_true (Nat.le_trans h2 (by decide))]; rfl
          · have := lays_of 60 ys hh.2
            unfold SeqAt.shaped
            simp only [PyData.canLay0, PyData.depth, this.1, Bool.true_and, decide_eq_true_eq]
            have h2 := this.2
            exact decide_eq_true (Nat.le_trans (Nat.succ_le_succ h2) (show 61 ≤ 64 by decide))
          · rw [any_eqv hh.1 hh.2]; exact q
        · cases h
    · rename_i ys hs
      split at h
      · rename_i hh
        simp only [Bool.and_eq_true] at hh
        exact lst ys (.inr hs) hh.1 hh.2 (Option.some.inj h)
      · cases h
    · rename_i lk kvs hs
      obtain ⟨a', kw, ha', hq, ra⟩ := R.dic hs
      have : a' = a := Option.some.inj (ha'.symm.trans ha)
      subst this
      unfold getK at h
      cases hk : keyOf x with
      | none => simp [hk] at h
      | some k =>
        simp only [hk, Option.map_some, Option.some.injEq] at h
        refine .inr (.inr (.inl ⟨a', valV kw k, rfl, .inl ⟨kw, k, hq, keyOf_rv hk rx, rfl⟩, ?_⟩))
        have : (valV kw k).isSome = b := by
          rcases ra.find (k := k) with ⟨h1, h2⟩ | ⟨x', v', h1, h2, _⟩
          · rw [h2, ← h, h1]; rfl
          · rw [h2, ← h, h1]; rfl
        rw [this]
        exact q
    · cases h
  · cases h
theorem sem_in : Sem2 K mg fIn (rInA K false) := fun ι st H x y v w z st' Q R rx ry h q => by
  simp only [fIn] at h
  cases e : inB x y st with
  | none => simp [e] at h
  | some b =>
    simp only [e, Option.map_some, Option.some.injEq, Prod.mk.injEq] at h
    obtain ⟨rfl, rfl⟩ := h
    exact in_of R e rx ry (q ι _ H .refl R rfl)
theorem sem_notIn : Sem2 K mg fNotIn (rInA K true) := fun ι st H x y v w z st' Q R rx ry h q => by
  simp only [fNotIn] at h
  cases e : inB x y st with
  | none => simp [e] at h
  | some b =>
    simp only [e, Option.map_some, Option.some.injEq, Prod.mk.injEq] at h
    obtain ⟨rfl, rfl⟩ := h
    exact in_of R e rx ry (q ι _ H .refl R rfl)
theorem RVs.atI : ∀ {xs : List PV} {vs : List V} {i : Int} {x : PV}, RVs K mg ι H xs vs → L2.atI xs i = some x → ∃ v, L2.atI vs i = some v ∧ RV K mg ι H x v := fun {xs vs i x} r h => by
  unfold L2.atI at h ⊢
  rw [r.length] at h
  cases e : ixN vs.length i with
  | none => rw [e] at h; simp at h
  | some j =>
    rw [e] at h
    exact r.get h
theorem sem_ix : Sem2 K mg fIx (fun x y H Q => rIx K x y H Q ∨ rIxD x y H Q) := fun ι st H x y v w z st' Q R rx ry h q => by
  simp only [fIx] at h
  cases e : ixB x y st with
  | none => simp [e] at h
  | some u =>
    simp only [e, Option.map_some, Option.some.injEq, Prod.mk.injEq] at h
    obtain ⟨rfl, rfl⟩ := h
    unfold ixB at e
    split at e
    · rename_i xs i
      simp only [RV] at rx
      obtain ⟨a, vs, rfl, ha, ra⟩ := rx
      obtain ⟨u', hu, ru⟩ := ra.atI e
      exact .inl (.inr (.inl ⟨a, vs, i, u', rfl, ry, ha, hu, q ι _ H .refl R ru⟩))
    · rename_i s i
      split at e
      · rename_i hl
        cases h1 : atI s.cps.toList i with
        | none => simp [h1] at e
        | some c =>
          simp only [h1, Option.map_some, Option.some.injEq] at e
          subst e
          exact .inl (.inr (.inr ⟨s, i, c, rx, ry, sixteen hl, h1, q ι _ H .refl R rfl⟩))
      · cases e
    · rename_i _ n
      simp only [RV] at rx
      obtain ⟨a, ha, rfl⟩ := rx
      have lst : ∀ xs i, (st[n]? = some (.lst xs) ∨ st[n]? = some (.fls xs)) → y = .int i → atI xs i = some u → (fun x y H Q => rIx K x y H Q ∨ rIxD x y H Q) (.ref a) w H Q := fun xs i hs ey h1 => by
        subst ey
        obtain ⟨a', vs, ha', hq, ra⟩ := R.lst hs
        have : a' = a := Option.some.inj (ha'.symm.trans ha)
        subst this
        obtain ⟨u', hu, ru⟩ := ra.atI h1
        exact .inl (.inl ⟨a', vs, i, u', rfl, ry, hq, hu, q ι _ H .refl R ru⟩)
      split at e
      · rename_i xs hs
        split at e
        · exact lst xs _ (.inl hs) rfl e
        · cases e
      · rename_i xs hs
        split at e
        · exact lst xs _ (.inr hs) rfl e
        · cases e
      · rename_i lk kvs hs
        obtain ⟨a', kw, ha', hq, ra⟩ := R.dic hs
        have : a' = a := Option.some.inj (ha'.symm.trans ha)
        subst this
        unfold getK at e
        cases hk : keyOf y with
        | none => simp [hk] at e
        | some k =>
          simp only [hk, Option.map_some, Option.bind_some, id] at e
          rcases ra.find (k := k) with ⟨h1, h2⟩ | ⟨x', v', h1, h2, r'⟩
          · rw [h1] at e; cases e
          · rw [h1] at e
            cases e
            exact .inr ⟨a', v', rfl, .inl ⟨kw, k, hq, keyOf_rv hk ry, h2.symm⟩, q ι _ H .refl R r'⟩
      · cases e
    · cases e
end
/-! ### equality, of dicts too -/
def dEqB (a b : List (Key × PV)) : Option Bool := if (a.all fun p => okD 60 p.2) && (b.all fun p => okD 60 p.2) then
    some ((a.length == b.length) && a.all fun p => match getP p.1 b with | some u => peq p.2 u | none => false)
  else none
def dicAt (st : Store) (n : Nat) : Option (List (Key × PV)) := match st[n]? with
  | some (.dic _ kvs) => some kvs
  | _ => none
def eqB (x y : PV) (st : Store) : Option Bool := match x, y with
  | .ref m, .ref n => match dicAt st m, dicAt st n with
    | some a, some b => dEqB a b
    | _, _ => eqB0 (.ref m) (.ref n) st
  | x, y => eqB0 x y st
def fEq : Fn
  | [x, y], st => (eqB x y st).map fun b => (.bl b, st)
  | _, _ => none
def fNe : Fn
  | [x, y], st => (eqB x y st).map fun b => (.bl (!b), st)
  | _, _ => none
section
variable {K : PySem.W.Frag} {mg : Str → Option Value} {ι : List Addr} {H : Hp} {st : Store}
theorem hitsD_of {b : List (Key × PV)} {lb : List (Key × V)} (rb : RPs K mg ι H b lb) (hb : (b.all fun p => okD 60 p.2) = true) : ∀ {a : List (Key × PV)} {la : List (Key × V)}, RPs K mg ι H a la → (a.all fun p => okD 60 p.2) = true →
    HitsD K H lb la (a.all fun p => match getP p.1 b with | some u => peq p.2 u | none => false)
  | [], la, r, _ => by
    simp only [RPs] at r
    subst r
    exact .nil
  | (k, x) :: a, la, r, h => by
    simp only [RPs] at r
    obtain ⟨v, s, rfl, rx, rt⟩ := r
    simp only [List.all_cons, Bool.and_eq_true] at h
    have ih := hitsD_of rb hb rt h.2
    rcases RPs.find (k := k) rb with ⟨e1, e2⟩ | ⟨u, w, e1, e2, ru⟩
    · simp only [List.all_cons, e1, Bool.false_and]
      exact .miss e2
    · simp only [List.all_cons, e1]
      have hu : okD 60 u = true := by
        unfold getP at e1
        cases hf : b.find? fun p => decide (p.1 = k) with
        | none => simp [hf] at e1
        | some p =>
          rw [hf] at e1
          have : p.2 = u := by simpa using e1
          rw [← this]
          exact List.all_eq_true.mp hb p (List.mem_of_find?_eq_some hf)
      rw [← eqv_of 60 60 x u h.1 hu]
      exact .hit e2 (dp_of 60 x v h.1 rx) (dp_of 60 u w hu ru) (lay_of 60 x h.1).1 (lay_of 60 u hu).1 (lay_of 60 x h.1).2 ih
theorem dicAt_of (R : RS K mg ι st H) {n : Nat} {kvs : List (Key × PV)} {v : V} (h : dicAt st n = some kvs) (r : RV K mg ι H (.ref n) v) : ∃ a kw, v = .ref a ∧ Rd H a (.dK kw) ∧ RPs K mg ι H kvs kw := by
  unfold dicAt at h
  split at h
  · rename_i lk kv hk
    cases h
    obtain ⟨a, kw, ha, hd, rp⟩ := R.dic hk
    simp only [RV] at r
    obtain ⟨a', ha', rfl⟩ := r
    have : a = a' := Option.some.inj (ha.symm.trans ha')
    subst this
    exact ⟨a, kw, rfl, hd, rp⟩
  · cases h
theorem eqB_of (R : RS K mg ι st H) {x y : PV} {v w : V} {b : Bool} (h : eqB x y st = some b) (rx : RV K mg ι H x v) (ry : RV K mg ι H y w) :
    (∃ d e, Dp K H v d ∧ Dp K H w e ∧ SeqAt.shaped d = true ∧ SeqAt.shaped e = true ∧ PyData.eqv d e = b) ∨ ∃ a a' ks ls r, v = .ref a ∧ w = .ref a' ∧ Rd H a (.dK ks) ∧ Rd H a' (.dK ls) ∧ HitsD K H ls ks r ∧ ((ks.length == ls.length) && r) = b := by
  unfold eqB at h
  split at h
  · rename_i m n
    split at h
    · rename_i ka kb ha hb
      obtain ⟨a, la, rfl, d1, r1⟩ := dicAt_of R ha rx
      obtain ⟨a', lb, rfl, d2, r2⟩ := dicAt_of R hb ry
      unfold dEqB at h
      split at h
      · rename_i ok
        simp only [Bool.and_eq_true] at ok
        cases h
        refine .inr ⟨a, a', la, lb, _, rfl, rfl, d1, d2, hitsD_of r2 ok.2 r1 ok.1, ?_⟩
        rw [r1.length, r2.length]
      · cases h
    · exact .inl (eqB0_of R h rx ry)
  · exact .inl (eqB0_of R h rx ry)
theorem sem_eq : Sem2 K mg fEq (fun x y H Q => rEqD K x y H Q ∨ rDicC K false x y H Q) := fun ι st H x y v w z st' Q R rx ry h q => by
  unfold fEq at h
  simp only at h
  cases e : eqB x y st with
  | none => simp [e] at h
  | some b =>
    simp only [e, Option.map_some, Option.some.injEq, Prod.mk.injEq] at h
    obtain ⟨rfl, rfl⟩ := h
    rcases eqB_of R e rx ry with ⟨d, e', h1, h2, h3, h4, rfl⟩ | ⟨a, a', ks, ls, r, h1, h2, h3, h4, h5, rfl⟩
    · exact .inl ⟨d, e', h1, h2, h3, h4, q ι _ H .refl R (by simp only [RV])⟩
    · exact .inr ⟨a, a', ks, ls, r, h1, h2, h3, h4, h5, q ι _ H .refl R (by simp only [RV]; rfl)⟩
theorem sem_ne : Sem2 K mg fNe (fun x y H Q => rNeD K x y H Q ∨ rDicC K true x y H Q) := fun ι st H x y v w z st' Q R rx ry h q => by
  unfold fNe at h
  simp only at h
  cases e : eqB x y st with
  | none => simp [e] at h
  | some b =>
    simp only [e, Option.map_some, Option.some.injEq, Prod.mk.injEq] at h
    obtain ⟨rfl, rfl⟩ := h
    rcases eqB_of R e rx ry with ⟨d, e', h1, h2, h3, h4, rfl⟩ | ⟨a, a', ks, ls, r, h1, h2, h3, h4, h5, rfl⟩
    · exact .inl ⟨d, e', h1, h2, h3, h4, q ι _ H .refl R (by simp only [RV])⟩
    · exact .inr ⟨a, a', ks, ls, r, h1, h2, h3, h4, h5, q ι _ H .refl R (by simp only [RV]; rfl)⟩
end
end Den

/-! DenK: calls by name. -/
namespace Den
open PySem PySem.Spec PyProof.Rows L2
/-- where one stands -/
structure C0 where
  P : Program
  w : World
  K : PySem.W.Frag
  mg : Str → Option Value
  base : Heap
structure XO (c : C0) (k : Nat) (X : Cx) : Prop where
  P : X.prog = c.P
  w : X.w = c.w
  K : X.K = c.K
  mg : X.mg = c.mg
  base : X.base = c.base
  calm : X.calm = true
  room : Room k X.A
/-- the name x, called, does F -/
def FnS (c : C0) (k : Nat) (x : Str) (F : Fn) : Prop := ∀ X : Cx, XO c k X → Gl X x → ∀ (es : List Expr) (f : Env → Store → Option (List PV × Store)) (p pos : Pos), unsts es = true → JA X es f → (es = [] → ∀ env st p, f env st = some p → p = ([], st)) →
  JE X (.Call (.Name x p) es [] pos) (fun env st => (f env st).bind fun (xs, s1) => F xs s1)
/-- .. of a new list does G -/
def CnS (c : C0) (k : Nat) (x : Str) (G : Gn) : Prop := ∀ X : Cx, XO c k X → Gl X x → ∀ (e : Expr) (f : Env → Store → Option (List PV × Store)) (p pos : Pos), unst e = true → JL X e f → JE X (.Call (.Name x p) [e] [] pos) (fOfl G f)
/-- .. of a new list makes a new list -/
def MpS (c : C0) (k : Nat) (x : Str) (F : List PV → Store → Option (List PV)) : Prop := ∀ X : Cx, XO c k X → Gl X x → ∀ (e : Expr) (f : Env → Store → Option (List PV × Store)) (p pos : Pos), unst e = true → JL X e f →
  JL X (.Call (.Name x p) [e] [] pos) (fun env st => (f env st).bind fun (xs, s1) => (F xs s1).bind fun ys => some (ys, s1))
/-- .. of values makes a new list -/
def FlS (c : C0) (k : Nat) (x : Str) (F : Fl) : Prop := ∀ X : Cx, XO c k X → Gl X x → ∀ (es : List Expr) (f : Env → Store → Option (List PV × Store)) (p pos : Pos), unsts es = true → JA X es f → (es = [] → ∀ env st p, f env st = some p → p = ([], st)) →
  JL X (.Call (.Name x p) es [] pos) (fun env st => (f env st).bind fun (xs, s1) => F xs s1)
theorem PE_never {X : Cx} {e : Expr} {t : TE} (h : ∀ σ H Q, ¬ t σ H Q) : PE X e t := ⟨fun pins s σ H Q I q => (h σ H Q q).elim⟩
theorem le_never {K : PySem.W.Frag} {mg : Str → Option Value} {f} (h : ∀ env st r, f env st ≠ some r) : ∀ σ H Q, ¬ LE K mg f σ H Q := fun σ H Q ⟨ι, env, st, x, st', R, E, e, q⟩ => h _ _ _ e
section
variable {c : C0} {k : Nat} {x : Str} {F : Fn}
theorem ja_nil_of {X : Cx} {f : Env → Store → Option (List PV × Store)} (hF : ∀ st r, F [] st ≠ some r) (h : JA X [] f) (hf : ∀ env st xs s1, f env st = some (xs, s1) → xs = []) : ∀ env st r, ((f env st).bind fun (xs, s1) => F xs s1) ≠ some r := fun env st r e => by
  cases h1 : f env st with
  | none => simp [h1] at e
  | some p =>
    obtain ⟨xs, s1⟩ := p
    simp only [h1, Option.bind_some] at e
    rw [hf _ _ _ _ h1] at e
    exact hF _ _ e
end
/-- a built-in function by its rule -/
theorem je_callB {X : Cx} {x : Str} {F : Fn} {id : String} {r : List V → Hp → VK → Prop} {e : Expr} {es : List Expr} {f} {p pos : Pos} (hc : CallR X (.builtin id) r) (hF : SemC X.K X.mg F r) (hg : Gl X x) (hm : X.mg x = none) (hv : bootBuiltins x = some (.builtin id)) (u : unsts (e :: es) = true) (ha : JA X (e :: es) f)
    (hn : x ≠ "__name__") (hdb : (x == ("__debug__" : Str)) = false) : JE X (.Call (.Name x p) (e :: es) [] pos) (fun env st => (f env st).bind fun (xs, s1) => F xs s1) := by
  simp only [unsts, Bool.and_eq_true] at u
  exact PE_imp (pe_callB hc hg hm hv ha hn hdb (starEach_cons u.1) (plain_back u.2)) fun _ _ _ q => leC hF q
theorem je_callTy {X : Cx} {x : Str} {F : Fn} {T : String} {r : List V → Hp → VK → Prop} {e : Expr} {es : List Expr} {f} {p pos : Pos} (hc : CallR X (.type T) r) (hF : SemC X.K X.mg F r) (hg : Gl X x) (hm : X.mg x = none) (hv : bootBuiltins x = some (.type T)) (u : unsts (e :: es) = true) (ha : JA X (e :: es) f)
    (hn : x ≠ "__name__") (hdb : (x == ("__debug__" : Str)) = false) : JE X (.Call (.Name x p) (e :: es) [] pos) (fun env st => (f env st).bind fun (xs, s1) => F xs s1) := by
  simp only [unsts, Bool.and_eq_true] at u
  exact PE_imp (pe_callTy hc hg hm hv ha hn hdb (starEach_cons u.1) (plain_back u.2)) fun _ _ _ q => leC hF q

/-! ### new lists as arguments -/
def SemG (K : PySem.W.Frag) (mg : Str → Option Value) (G : Gn) (r : List V → Hp → VK → Prop) : Prop := ∀ ι st H D vs xs z st' Q, RS K mg ι st H → H D = some (.lst vs) → D ∉ ι → RVs K mg ι H xs vs → G xs st = some (z, st') → Pst K mg ι H z st' Q → r [.ref D] H Q
/-- what is wanted of a new list's end -/
def PstL (K : PySem.W.Frag) (mg : Str → Option Value) (ι : List Addr) (H : Hp) (xs : List PV) (st : Store) (Q : VK) : Prop := ∀ ι' D vs H', Le ι ι' H H' → RS K mg ι' st H' → H D = none → D ∉ ι' → H' D = some (.lst vs) → RVs K mg ι' H' xs vs → Q (.ref D) H'
def SemM (K : PySem.W.Frag) (mg : Str → Option Value) (F : List PV → Store → Option (List PV)) (r : List V → Hp → VK → Prop) : Prop := ∀ ι st H D vs xs ys Q, RS K mg ι st H → H D = some (.lst vs) → D ∉ ι → RVs K mg ι H xs vs → F xs st = some ys → PstL K mg ι H ys st Q → r [.ref D] H Q
def SemL (K : PySem.W.Frag) (mg : Str → Option Value) (F : Fl) (r : List V → Hp → VK → Prop) : Prop := ∀ ι st H xs vs ys st' Q, RS K mg ι st H → RVs K mg ι H xs vs → F xs st = some (ys, st') → PstL K mg ι H ys st' Q → r vs H Q
theorem leG {K : PySem.W.Frag} {mg : Str → Option Value} {G : Gn} {r : List V → Hp → VK → Prop} {f : Env → Store → Option (List PV × Store)} (hG : SemG K mg G r) {σ : L2.St} {H : Hp} {Q : VK} (h : LE K mg (fOfl G f) σ H Q) : tCB r (tCons (LL K mg f) tNil) σ H Q := by
  obtain ⟨ι, env, st, z, st', R, E, e, q⟩ := h
  unfold fOfl at e
  cases h1 : f env st with
  | none => simp [h1] at e
  | some p =>
    obtain ⟨xs, s1⟩ := p
    simp only [h1, Option.bind_some] at e
    exact ⟨ι, env, st, xs, s1, R, E, h1, fun ι1 D vs H1 l1 R1 h0 hn hD r1 => hG ι1 s1 H1 D vs xs z st' Q R1 hD hn r1 e fun ι2 u H2 l2 R2 r2 => q ι2 u H2 (l1.trans l2) R2 r2⟩
theorem leM {K : PySem.W.Frag} {mg : Str → Option Value} {F : List PV → Store → Option (List PV)} {r : List V → Hp → VK → Prop} {f : Env → Store → Option (List PV × Store)} (hF : SemM K mg F r) {σ : L2.St} {H : Hp} {Q : VK}
    (h : LL K mg (fun env st => (f env st).bind fun (xs, s1) => (F xs s1).bind fun ys => some (ys, s1)) σ H Q) : tCB r (tCons (LL K mg f) tNil) σ H Q := by
  obtain ⟨ι, env, st, z, st', R, E, e, q⟩ := h
  cases h1 : f env st with
  | none => simp [h1] at e
  | some p =>
    obtain ⟨xs, s1⟩ := p
    cases h2 : F xs s1 with
    | none => simp [h1, h2] at e
    | some ys =>
      simp only [h1, h2, Option.bind_some, Option.some.injEq, Prod.mk.injEq] at e
      obtain ⟨rfl, rfl⟩ := e
      refine ⟨ι, env, st, xs, s1, R, E, h1, fun ι1 D vs H1 l1 R1 h0 hn hD r1 => hF ι1 s1 H1 D vs xs ys Q R1 hD hn r1 h2 fun ι2 D' ws H2 l2 R2 h0' hn' hD' r2 => ?_⟩
      exact q ι2 D' ws H2 (l1.trans l2) R2 (l1.absent h0' fun z => hn' (l2.sub z)) hn' hD' r2
theorem leFl {K : PySem.W.Frag} {mg : Str → Option Value} {F : Fl} {r : List V → Hp → VK → Prop} {f : Env → Store → Option (List PV × Store)} (hF : SemL K mg F r) {σ : L2.St} {H : Hp} {Q : VK}
    (h : LL K mg (fun env st => (f env st).bind fun (xs, s1) => F xs s1) σ H Q) : tCB r (LA K mg f) σ H Q := by
  obtain ⟨ι, env, st, ys, st', R, E, e, q⟩ := h
  cases h1 : f env st with
  | none => simp [h1] at e
  | some p =>
    obtain ⟨xs, s1⟩ := p
    simp only [h1, Option.bind_some] at e
    refine ⟨ι, env, st, xs, s1, R, E, h1, fun ι1 vs H1 l1 R1 r1 => hF ι1 s1 H1 xs vs ys st' Q R1 r1 e fun ι2 D' ws H2 l2 R2 h0' hn' hD' r2 => ?_⟩
    exact q ι2 D' ws H2 (l1.trans l2) R2 (l1.absent h0' fun z => hn' (l2.sub z)) hn' hD' r2
theorem ns_one {e : Expr} (u : unst e = true) : unsts [e] = true := by simp [unsts, u]
section
variable {c : C0} {k : Nat} {x : Str} {F : Fn} {G : Gn} {M : List PV → Store → Option (List PV)} {Fm : Fl} {id T : String} {r : List V → Hp → VK → Prop}
/-- a built-in, by its rule in every place -/
structure Blt (c : C0) (k : Nat) (x : Str) (f : Value) (r : List V → Hp → VK → Prop) : Prop where
  rule : ∀ X : Cx, XO c k X → CallR X f r
  free : c.mg x = none
  val : bootBuiltins x = some f
  nm : x ≠ "__name__"
  db : (x == ("__debug__" : Str)) = false
theorem fns_B (b : Blt c k x (.builtin id) r) (hF : SemC c.K c.mg F r) : ∀ X : Cx, XO c k X → Gl X x → ∀ (e : Expr) (es : List Expr) (f : Env → Store → Option (List PV × Store)) (p pos : Pos), unsts (e :: es) = true → JA X (e :: es) f →
    JE X (.Call (.Name x p) (e :: es) [] pos) (fun env st => (f env st).bind fun (xs, s1) => F xs s1) := fun X O hg e es f p pos u ha => by
  refine je_callB (b.rule X O) ?_ hg ?_ b.val u ha b.nm b.db
  · rw [O.K, O.mg]; exact hF
  · rw [O.mg]; exact b.free
theorem fns_T (b : Blt c k x (.type T) r) (hF : SemC c.K c.mg F r) : ∀ X : Cx, XO c k X → Gl X x → ∀ (e : Expr) (es : List Expr) (f : Env → Store → Option (List PV × Store)) (p pos : Pos), unsts (e :: es) = true → JA X (e :: es) f →
    JE X (.Call (.Name x p) (e :: es) [] pos) (fun env st => (f env st).bind fun (xs, s1) => F xs s1) := fun X O hg e es f p pos u ha => by
  refine je_callTy (b.rule X O) ?_ hg ?_ b.val u ha b.nm b.db
  · rw [O.K, O.mg]; exact hF
  · rw [O.mg]; exact b.free
theorem cns_B (b : Blt c k x (.builtin id) r) (hG : SemG c.K c.mg G r) : CnS c k x G := fun X O hg e f p pos u ha => by
  have hG' : SemG X.K X.mg G r := by rw [O.K, O.mg]; exact hG
  exact PE_imp (pe_callB (b.rule X O) hg (by rw [O.mg]; exact b.free) b.val (pa_cons ha pa_nil (starEach_cons u)) b.nm b.db (starEach_cons u) rfl) fun _ _ _ q => leG hG' q
theorem cns_T (b : Blt c k x (.type T) r) (hG : SemG c.K c.mg G r) : CnS c k x G := fun X O hg e f p pos u ha => by
  have hG' : SemG X.K X.mg G r := by rw [O.K, O.mg]; exact hG
  exact PE_imp (pe_callTy (b.rule X O) hg (by rw [O.mg]; exact b.free) b.val (pa_cons ha pa_nil (starEach_cons u)) b.nm b.db (starEach_cons u) rfl) fun _ _ _ q => leG hG' q
theorem mps_B (b : Blt c k x (.builtin id) r) (hM : SemM c.K c.mg M r) : MpS c k x M := fun X O hg e f p pos u ha => by
  have hM' : SemM X.K X.mg M r := by rw [O.K, O.mg]; exact hM
  exact PE_imp (pe_callB (b.rule X O) hg (by rw [O.mg]; exact b.free) b.val (pa_cons ha pa_nil (starEach_cons u)) b.nm b.db (starEach_cons u) rfl) fun _ _ _ q => leM hM' q
theorem mps_T (b : Blt c k x (.type T) r) (hM : SemM c.K c.mg M r) : MpS c k x M := fun X O hg e f p pos u ha => by
  have hM' : SemM X.K X.mg M r := by rw [O.K, O.mg]; exact hM
  exact PE_imp (pe_callTy (b.rule X O) hg (by rw [O.mg]; exact b.free) b.val (pa_cons ha pa_nil (starEach_cons u)) b.nm b.db (starEach_cons u) rfl) fun _ _ _ q => leM hM' q
end

/-! ### what the built-ins do -/
def asInts : List PV → Option (List Int)
  | [] => some []
  | .int i :: r => (asInts r).map (i :: ·)
  | _ => none
def asBools : List PV → Option (List Bool)
  | [] => some []
  | .bl b :: r => (asBools r).map (b :: ·)
  | _ => none
def asStrs : List PV → Option (List Str)
  | [] => some []
  | .str b :: r => (asStrs r).map (b :: ·)
  | _ => none
def gTuple : Gn := fun xs st => some (.tup xs, st)
def gLen : Gn := fun xs st => some (.int xs.length, st)
def gAll : Gn := fun xs st => (asBools xs).map fun bs => (.bl (bs.all id), st)
def gAny : Gn := fun xs st => (asBools xs).map fun bs => (.bl (bs.any id), st)
def gSum : Gn := fun xs st => (asInts xs).map fun ns => (.int ns.sum, st)
def maxI : List Int → Int
  | [] => 0
  | [a] => a
  | a :: b :: r => max a (maxI (b :: r))
def minI : List Int → Int
  | [] => 0
  | [a] => a
  | a :: b :: r => min a (minI (b :: r))
def gMax : Gn := fun xs st => (asInts xs).bind fun ns => if ns = [] then none else some (.int (maxI ns), st)
def gMin : Gn := fun xs st => (asInts xs).bind fun ns => if ns = [] then none else some (.int (minI ns), st)
/-- the same of a list of the store -/
def ofG (G : Gn) : Fn
  | [.ref n], st => (lstAt st n).bind fun xs => G xs st
  | _, _ => none
def fInt : Fn
  | [.int i], st => some (.int i, st)
  | [.bl b], st => some (.int (if b then 1 else 0), st)
  | _, _ => none
def fAbs : Fn
  | [.int i], st => some (.int (if i < 0 then -i else i), st)
  | _, _ => none
def lenB (x : PV) (st : Store) : Option Nat := match x with
  | .tup xs => some xs.length
  | .str x => if x.length ≤ 16000000 then some x.length else none
  | .ref n => match st[n]? with
    | some (.lst xs) => some xs.length
    | some (.fls xs) => some xs.length
    | some (.dic _ kvs) => some kvs.length
    | _ => none
  | _ => none
def fLen : Fn
  | [x], st => (lenB x st).map fun n => (.int n, st)
  | _, _ => none
def fTuple : Fn
  | [.tup xs], st => some (.tup xs, st)
  | [.ref n], st => (lstAt st n).bind fun xs => some (.tup xs, st)
  | _, _ => none
def fMax : Fn
  | [.int i, .int j], st => some (.int (max i j), st)
  | xs, st => ofG gMax xs st
def fMin : Fn
  | [.int i, .int j], st => some (.int (min i j), st)
  | xs, st => ofG gMin xs st
/-- the type's name -/
def tyN (x : PV) (st : Store) : Option String := match x with
  | .non => some "NoneType" | .bl _ => some "bool" | .int _ => some "int" | .str _ => some "str" | .tup _ => some "tuple"
  | .ref n => match st[n]? with
    | some (.lst _) => some "list"
    | some (.fls _) => some "list"
    | some (.dic _ _) => some "dict"
    | _ => none
  | _ => none
def subTy (a b : String) : Bool := a == b || (a == "bool" && b == "int")
def isTyN (b : String) : Bool := b == "int" || b == "bool" || b == "str" || b == "tuple" || b == "list" || b == "dict"
def isiAny (a : String) : List PV → Option Bool
  | [] => some false
  | .ty b :: r => if isTyN b then (isiAny a r).map fun t => subTy a b || t else none
  | _ => none
def fIsi : Fn
  | [x, .ty b], st => (tyN x st).bind fun a => if isTyN b then some (.bl (subTy a b), st) else none
  | [x, .tup cs], st => (tyN x st).bind fun a => (isiAny a cs).map fun t => (.bl t, st)
  | _, _ => none
/-- a new list of a list's, a tuple's items, of a dict's keys -/
def flList : Fl
  | [.tup xs], st => some (xs, st)
  | [.ref n], st => match st[n]? with
    | some (.lst xs) => some (xs, st)
    | some (.fls xs) => some (xs, st)
    | some (.dic false kvs) => some (kvs.map fun p => kP p.1, st)
    | _ => none
  | _, _ => none
end Den

/-! DenL: the built-ins are what the rules say. -/
namespace Den
open PySem PySem.Spec PyProof.Rows L2
section
variable {K : PySem.W.Frag} {mg : Str → Option Value} {ι : List Addr} {H : Hp} {st : Store}
theorem ints_rv : ∀ {xs : List PV} {vs : List V} {ns : List Int}, asInts xs = some ns → RVs K mg ι H xs vs → vs = ns.map V.int
  | [], vs, ns, h, r => by simp only [asInts, RVs] at h r; cases h; subst r; rfl
  | x :: xs, vs, ns, h, r => by
    simp only [RVs] at r
    obtain ⟨v, r, rfl, q, t⟩ := r
    cases x <;> simp only [asInts] at h <;> try cases h
    rename_i i
    cases e : asInts xs with
    | none => simp [e] at h
    | some ms =>
      simp only [e, Option.map_some, Option.some.injEq] at h
      subst h
      simp only [RV] at q
      subst q
      rw [ints_rv e t]; rfl
theorem bools_rv : ∀ {xs : List PV} {vs : List V} {ns : List Bool}, asBools xs = some ns → RVs K mg ι H xs vs → vs = ns.map V.bl
  | [], vs, ns, h, r => by simp only [asBools, RVs] at h r; cases h; subst r; rfl
  | x :: xs, vs, ns, h, r => by
    simp only [RVs] at r
    obtain ⟨v, r, rfl, q, t⟩ := r
    cases x <;> simp only [asBools] at h <;> try cases h
    rename_i i
    cases e : asBools xs with
    | none => simp [e] at h
    | some ms =>
      simp only [e, Option.map_some, Option.some.injEq] at h
      subst h
      simp only [RV] at q
      subst q
      rw [bools_rv e t]; rfl
theorem strs_rv : ∀ {xs : List PV} {vs : List V} {ns : List Str}, asStrs xs = some ns → RVs K mg ι H xs vs → vs = ns.map V.str
  | [], vs, ns, h, r => by simp only [asStrs, RVs] at h r; cases h; subst r; rfl
  | x :: xs, vs, ns, h, r => by
    simp only [RVs] at r
    obtain ⟨v, r, rfl, q, t⟩ := r
    cases x <;> simp only [asStrs] at h <;> try cases h
    rename_i i
    cases e : asStrs xs with
    | none => simp [e] at h
    | some ms =>
      simp only [e, Option.map_some, Option.some.injEq] at h
      subst h
      simp only [RV] at q
      subst q
      rw [strs_rv e t]; rfl
theorem maxI_mem : ∀ {ns : List Int}, ns ≠ [] → maxI ns ∈ ns
  | [a], _ => by simp [maxI]
  | a :: b :: r, _ => by
    have ih := maxI_mem (ns := b :: r) (by simp)
    simp only [maxI]
    by_cases h : a ≤ maxI (b :: r)
    · rw [Int.max_eq_right h]; exact List.mem_cons_of_mem _ ih
    · rw [Int.max_eq_left (by omega)]; exact List.mem_cons_self ..
theorem maxI_le : ∀ {ns : List Int} {x : Int}, x ∈ ns → x ≤ maxI ns
  | [a], x, h => by
    have : x = a := by simpa using h
    simp [maxI, this]
  | a :: b :: r, x, h => by
    simp only [maxI]
    rcases List.mem_cons.mp h with rfl | h
    · exact Int.le_max_left ..
    · exact Int.le_trans (maxI_le h) (Int.le_max_right ..)
theorem maxI_eq {ns : List Int} {m : Int} (h : m ∈ ns) (q : ∀ y ∈ ns, y ≤ m) : m = maxI ns :=
  Int.le_antisymm (maxI_le h) (q _ (maxI_mem (by intro z; subst z; simp at h)))
theorem minI_mem : ∀ {ns : List Int}, ns ≠ [] → minI ns ∈ ns
  | [a], _ => by simp [minI]
  | a :: b :: r, _ => by
    have ih := minI_mem (ns := b :: r) (by simp)
    simp only [minI]
    by_cases h : a ≤ minI (b :: r)
    · rw [Int.min_eq_left h]; exact List.mem_cons_self ..
    · rw [Int.min_eq_right (by omega)]; exact List.mem_cons_of_mem _ ih
theorem minI_le : ∀ {ns : List Int} {x : Int}, x ∈ ns → minI ns ≤ x
  | [a], x, h => by
    have : x = a := by simpa using h
    simp [minI, this]
  | a :: b :: r, x, h => by
    simp only [minI]
    rcases List.mem_cons.mp h with rfl | h
    · exact Int.min_le_left ..
    · exact Int.le_trans (Int.min_le_right ..) (minI_le h)
theorem minI_eq {ns : List Int} {m : Int} (h : m ∈ ns) (q : ∀ y ∈ ns, m ≤ y) : m = minI ns :=
  Int.le_antisymm (q _ (minI_mem (by intro z; subst z; simp at h))) (minI_le h)
/-- of any list that is read -/
abbrev SemR (K : PySem.W.Frag) (mg : Str → Option Value) (G : Gn) (r : List V → Hp → VK → Prop) : Prop := ∀ ι st H D vs xs z st' Q, RS K mg ι st H → SqL K H D vs → RVs K mg ι H xs vs → G xs st = some (z, st') → Pst K mg ι H z st' Q → r [.ref D] H Q
theorem SemR.g {G : Gn} {r : List V → Hp → VK → Prop} (h : SemR K mg G r) : SemG K mg G r := fun ι st H D vs xs z st' Q R hD hn rv e q => h ι st H D vs xs z st' Q R (.inl (.inl hD)) rv e q
/-- one value, a list -/
theorem SemR.one {G : Gn} {r : List V → Hp → VK → Prop} (h : SemR K mg G r) : SemC K mg (ofG G) r := fun ι st H xs vs z st' Q R rv e q => by
  unfold ofG at e
  split at e
  · rename_i n
    cases h1 : lstAt st n with
    | none => simp [h1] at e
    | some ys =>
      simp only [h1, Option.bind_some] at e
      obtain ⟨a, ws, ha, hs, rw'⟩ := R.lstAt h1
      obtain ⟨v, rfl, q'⟩ := rv.one
      simp only [RV] at q'
      obtain ⟨a', ha', rfl⟩ := q'
      have : a = a' := Option.some.inj (ha.symm.trans ha')
      subst this
      exact h ι st H a ws ys z st' Q R hs rw' e q
  · cases e
theorem semR_all : SemR K mg gAll (rAll K) := fun ι st H D vs xs z st' Q R hs rv e q => by
  unfold gAll at e
  cases h1 : asBools xs with
  | none => simp [h1] at e
  | some bs =>
    simp only [h1, Option.map_some, Option.some.injEq, Prod.mk.injEq] at e
    obtain ⟨rfl, rfl⟩ := e
    refine ⟨D, bs, rfl, ?_, q ι _ H .refl R rfl⟩
    rw [← bools_rv h1 rv]; exact hs
theorem semR_any : SemR K mg gAny (rAny K) := fun ι st H D vs xs z st' Q R hs rv e q => by
  unfold gAny at e
  cases h1 : asBools xs with
  | none => simp [h1] at e
  | some bs =>
    simp only [h1, Option.map_some, Option.some.injEq, Prod.mk.injEq] at e
    obtain ⟨rfl, rfl⟩ := e
    refine ⟨D, bs, rfl, ?_, q ι _ H .refl R rfl⟩
    rw [← bools_rv h1 rv]; exact hs
theorem semR_sum : SemR K mg gSum (rSum K) := fun ι st H D vs xs z st' Q R hs rv e q => by
  unfold gSum at e
  cases h1 : asInts xs with
  | none => simp [h1] at e
  | some bs =>
    simp only [h1, Option.map_some, Option.some.injEq, Prod.mk.injEq] at e
    obtain ⟨rfl, rfl⟩ := e
    refine ⟨D, bs, rfl, ?_, q ι _ H .refl R rfl⟩
    rw [← ints_rv h1 rv]; exact hs
theorem semR_max : SemR K mg gMax (rMax K) := fun ι st H D vs xs z st' Q R hs rv e q => by
  unfold gMax at e
  cases h1 : asInts xs with
  | none => simp [h1] at e
  | some bs =>
    simp only [h1, Option.bind_some] at e
    split at e
    · cases e
    · rename_i hne
      cases e
      refine ⟨D, bs, rfl, ?_, List.length_pos_iff.mpr hne, fun m h2 h3 => ?_⟩
      · rw [← ints_rv h1 rv]; exact hs
      · rw [maxI_eq h2 h3]; exact q ι _ H .refl R rfl
theorem semR_min : SemR K mg gMin (rMin K) := fun ι st H D vs xs z st' Q R hs rv e q => by
  unfold gMin at e
  cases h1 : asInts xs with
  | none => simp [h1] at e
  | some bs =>
    simp only [h1, Option.bind_some] at e
    split at e
    · cases e
    · rename_i hne
      cases e
      refine ⟨D, bs, rfl, ?_, List.length_pos_iff.mpr hne, fun m h2 h3 => ?_⟩
      · rw [← ints_rv h1 rv]; exact hs
      · rw [minI_eq h2 h3]; exact q ι _ H .refl R rfl
abbrev rTupA (K : PySem.W.Frag) : List V → Hp → VK → Prop := fun xs H Q => ∃ p ys, xs = [.ref p] ∧ ((SqL K H p ys ∧ ∀ l, H l = none → Q (.ref l) (upd H l (.tup ys))) ∨ (SqT K H p ys ∧ Q (.ref p) H))
theorem semR_tuple : SemR K mg gTuple (rTupA K) := fun ι st H D vs xs z st' Q R hs rv e q => by
  cases e
  refine ⟨D, vs, rfl, .inl ⟨hs, fun l hl => q ι _ _ (.new hl) (R.new hl) ?_⟩⟩
  simp only [RV]
  exact ⟨l, vs, rfl, .inl (.inl upd_same), rv.le (Le.new (ι := ι) hl).ex⟩
theorem sem_tuple : SemC K mg fTuple (rTupA K) := fun ι st H xs vs z st' Q R rv e q => by
  unfold fTuple at e
  split at e
  · rename_i ys
    cases e
    obtain ⟨v, rfl, q'⟩ := rv.one
    simp only [RV] at q'
    obtain ⟨a, ws, rfl, ha, ra⟩ := q'
    exact ⟨a, ws, rfl, .inr ⟨ha, q ι _ H .refl R (by simp only [RV]; exact ⟨a, ws, rfl, ha, ra⟩)⟩⟩
  · rename_i n
    refine SemR.one (G := gTuple) semR_tuple ι st H [.ref n] vs z st' Q R rv ?_ q
    exact e
  · cases e
theorem semR_len : SemR K mg gLen (fun xs H Q => ∃ x n, xs = [x] ∧ LenV K x H n ∧ Q (.int n) H) := fun ι st H D vs xs z st' Q R hs rv e q => by
  cases e
  exact ⟨.ref D, xs.length, rfl, .inl ⟨vs, hs, rv.length⟩, q ι _ H .refl R rfl⟩
/-- len, of a dict too -/
def rLenA (K : PySem.W.Frag) : List V → Hp → VK → Prop := fun xs H Q => (∃ x n, xs = [x] ∧ LenV K x H n ∧ Q (.int n) H) ∨ ∃ p kvs, xs = [.ref p] ∧ Rd H p (.dK kvs) ∧ Q (.int kvs.length) H
theorem call_lenA {X : Cx} : CallR X (.builtin "len") (rLenA X.K) := by
  intro pins s σ H xs us Q I r h
  rcases h with h | ⟨p, kvs, rfl, hd, q⟩
  · exact call_len pins s σ H xs us Q I r h
  · obtain ⟨u, rfl, rx⟩ := vals1 r
    cases rx
    exact d_len I hd fun t s' I' => ⟨.int kvs.length, H, I', ⟨t, rfl⟩, q⟩
theorem semR_lenA : SemR K mg gLen (rLenA K) := fun ι st H D vs xs z st' Q R hs rv e q => .inl (semR_len ι st H D vs xs z st' Q R hs rv e q)
theorem sem_len : SemC K mg fLen (rLenA K) := fun ι st H xs vs z st' Q R rv e q => by
  unfold fLen at e
  split at e
  · rename_i x
    obtain ⟨v, rfl, q'⟩ := rv.one
    cases h1 : lenB x st with
    | none => simp [h1] at e
    | some n =>
      simp only [h1, Option.map_some, Option.some.injEq, Prod.mk.injEq] at e
      obtain ⟨rfl, rfl⟩ := e
      have fin := q ι (.int n) H .refl R rfl
      unfold lenB at h1
      split at h1
      · cases h1
        simp only [RV] at q'
        obtain ⟨a, ws, rfl, ha, ra⟩ := q'
        exact .inl ⟨.ref a, _, rfl, .inr ⟨ws, ha, ra.length⟩, fin⟩
      · split at h1
        · rename_i hl
          cases h1
          simp only [RV] at q'
          subst q'
          exact .inl ⟨.str _, _, rfl, ⟨sixteen hl, rfl⟩, fin⟩
        · cases h1
      · rename_i m
        simp only [RV] at q'
        obtain ⟨a, ha, rfl⟩ := q'
        have lst : ∀ xs, (st[m]? = some (.lst xs) ∨ st[m]? = some (.fls xs)) → xs.length = n → rLenA K [.ref a] H Q := fun xs hs hl => by
          obtain ⟨b, ws, hb, hq, ra⟩ := R.lst hs
          have : b = a := Option.some.inj (hb.symm.trans ha)
          subst this
          exact .inl ⟨.ref b, n, rfl, .inl ⟨ws, hq, by rw [← hl]; exact ra.length⟩, fin⟩
        split at h1
        · rename_i hs; exact lst _ (.inl hs) (Option.some.inj h1)
        · rename_i hs; exact lst _ (.inr hs) (Option.some.inj h1)
        · rename_i hs
          cases h1
          obtain ⟨b, kw, hb, hq, ra⟩ := R.dic hs
          have : b = a := Option.some.inj (hb.symm.trans ha)
          subst this
          exact .inr ⟨b, kw, rfl, hq, by rw [← ra.length]; exact fin⟩
        · cases h1
      · cases h1
  · cases e
theorem sem_int : SemC K mg fInt (fun xs H Q => (∃ i, xs = [.int i] ∧ Q (.int i) H) ∨ ∃ k, xs = [.bl k] ∧ Q (.int (if k then 1 else 0)) H) := fun ι st H xs vs z st' Q R rv e q => by
  unfold fInt at e
  split at e
  · cases e
    obtain ⟨v, rfl, q'⟩ := rv.one
    simp only [RV] at q'
    subst q'
    exact .inl ⟨_, rfl, q ι _ H .refl R rfl⟩
  · cases e
    obtain ⟨v, rfl, q'⟩ := rv.one
    simp only [RV] at q'
    subst q'
    exact .inr ⟨_, rfl, q ι _ H .refl R rfl⟩
  · cases e
theorem sem_abs : SemC K mg fAbs (fun xs H Q => ∃ i, xs = [.int i] ∧ Q (.int (if i < 0 then -i else i)) H) := fun ι st H xs vs z st' Q R rv e q => by
  unfold fAbs at e
  split at e
  · cases e
    obtain ⟨v, rfl, q'⟩ := rv.one
    simp only [RV] at q'
    subst q'
    exact ⟨_, rfl, q ι _ H .refl R rfl⟩
  · cases e
/-- max, min of two, of a list -/
def rMaxA (K : PySem.W.Frag) : List V → Hp → VK → Prop := fun xs H Q => (∃ i j, xs = [.int i, .int j] ∧ Q (.int (if j > i then j else i)) H) ∨ rMax K xs H Q
def rMinA (K : PySem.W.Frag) : List V → Hp → VK → Prop := fun xs H Q => (∃ i j, xs = [.int i, .int j] ∧ Q (.int (if j < i then j else i)) H) ∨ rMin K xs H Q
theorem call_maxA {X : Cx} (hc : X.calm = true) : CallR X (.builtin "max") (rMaxA X.K) := (call_max2 hc).or (cr_max hc)
theorem call_minA {X : Cx} (hc : X.calm = true) : CallR X (.builtin "min") (rMinA X.K) := (call_min2 hc).or (cr_min hc)
theorem sem_max : SemC K mg fMax (rMaxA K) := fun ι st H xs vs z st' Q R rv e q => by
  unfold fMax at e
  split at e
  · rename_i i j
    cases e
    obtain ⟨v, w, rfl, q1, q2⟩ := rv.two
    simp only [RV] at q1 q2
    subst q1; subst q2
    refine .inl ⟨i, j, rfl, ?_⟩
    have : (if j > i then j else i) = max i j := by split <;> omega
    rw [this]
    exact q ι _ H .refl R rfl
  · exact .inr (SemR.one semR_max ι st H _ vs z st' Q R rv e q)
theorem sem_min : SemC K mg fMin (rMinA K) := fun ι st H xs vs z st' Q R rv e q => by
  unfold fMin at e
  split at e
  · rename_i i j
    cases e
    obtain ⟨v, w, rfl, q1, q2⟩ := rv.two
    simp only [RV] at q1 q2
    subst q1; subst q2
    refine .inl ⟨i, j, rfl, ?_⟩
    have : (if j < i then j else i) = min i j := by split <;> omega
    rw [this]
    exact q ι _ H .refl R rfl
  · exact .inr (SemR.one semR_min ι st H _ vs z st' Q R rv e q)
theorem semR_maxA : SemR K mg gMax (rMaxA K) := fun ι st H D vs xs z st' Q R hs rv e q => .inr (semR_max ι st H D vs xs z st' Q R hs rv e q)
theorem semR_minA : SemR K mg gMin (rMinA K) := fun ι st H D vs xs z st' Q R hs rv e q => .inr (semR_min ι st H D vs xs z st' Q R hs rv e q)
/-! ### isinstance -/
theorem kitB_of : ∀ a ∈ ["NoneType", "bool", "int", "str", "tuple", "list", "dict"], ∀ b ∈ ["int", "bool", "str", "tuple", "list", "dict"], kitB a b = some (subTy a b) := by decide +kernel
theorem isTy_mem {b : String} (h : isTyN b = true) : b ∈ ["int", "bool", "str", "tuple", "list", "dict"] := by
  unfold isTyN at h
  simp only [Bool.or_eq_true, beq_iff_eq] at h
  simp only [List.mem_cons, List.not_mem_nil, or_false]
  rcases h with ((((h | h) | h) | h) | h) | h <;> simp [h]
theorem tyX_of (R : RS K mg ι st H) {x : PV} {v : V} {a : String} (h : tyN x st = some a) (r : RV K mg ι H x v) : TyX K H v (.type a) ∧ a ∈ ["NoneType", "bool", "int", "str", "tuple", "list", "dict"] := by
  unfold tyN at h
  split at h
  · cases h; simp only [RV] at r; subst r; exact ⟨.base .non, by simp⟩
  · cases h; simp only [RV] at r; subst r; exact ⟨.base (.bl _), by simp⟩
  · cases h; simp only [RV] at r; subst r; exact ⟨.base (.int _), by simp⟩
  · cases h; simp only [RV] at r; subst r; exact ⟨.base (.str _), by simp⟩
  · cases h
    simp only [RV] at r
    obtain ⟨p, vs, rfl, hq, _⟩ := r
    refine ⟨?_, by simp⟩
    rcases hq with (hq | ⟨o, hq⟩) | ⟨o, its, n, hk, hc, _⟩
    · exact .base (.tup hq)
    · exact .fTuple hq
    · exact .kTuple hk hc
  · rename_i n
    simp only [RV] at r
    obtain ⟨p, hp, rfl⟩ := r
    split at h
    · rename_i hs
      cases h
      obtain ⟨b, hb, vs, e, _⟩ := R.ob n _ hs
      have : b = p := Option.some.inj (hb.symm.trans hp)
      subst this
      exact ⟨.base (.lst e), by simp⟩
    · rename_i hs
      cases h
      obtain ⟨b, hb, o, vs, e, _⟩ := R.ob n _ hs
      have : b = p := Option.some.inj (hb.symm.trans hp)
      subst this
      exact ⟨.base (.frz e), by simp⟩
    · rename_i hs
      cases h
      obtain ⟨b, kw, hb, e, _⟩ := R.dic hs
      have : b = p := Option.some.inj (hb.symm.trans hp)
      subst this
      refine ⟨?_, by simp⟩
      rcases e with e | ⟨o, e⟩
      · exact .base (.dK e)
      · exact .fDict e
    · cases h
  · cases h
def rIsiA (K : PySem.W.Frag) : List V → Hp → VK → Prop := fun xs H Q => rIsi K xs H Q ∨ (∃ (x : V) (tp : Addr) (cs : List V) (t : Value) (us : List Value) (b : Bool), xs = [x, .ref tp] ∧ SqT K H tp cs ∧ Paired ClsV cs us ∧ TyX K H x t ∧ PySem.W.kitAny K t us = some b ∧ Q (.bl b) H)
theorem call_isiA {X : Cx} : CallR X (.builtin "isinstance") (rIsiA X.K) := by
  intro pins s σ H xs us Q I r h
  rcases h with h | h
  · exact call_isi pins s σ H xs us Q I r h
  · obtain ⟨x, tp, cs, t, ws, b, rfl, hT, k, ty, e, q⟩ := h
    obtain ⟨u1, u2, rfl, r1, r2⟩ := vals2 r
    cases (show u2 = Value.ref tp from r2)
    obtain ⟨P, Z, p, hx⟩ := kit_of I r1 ty
    obtain ⟨its, rv, ⟨o, h1, h2, n, h3⟩, _⟩ := I.tuple hT
    have e3 := ClsV.all k rv
    subst e3
    obtain ⟨oc, od, dt, sl⟩ := o
    simp only at h2 h3
    subst h2 h3
    exact PySem.W.kia_tup Z I.kIn p h1 e hx fun tk => ⟨.bl b, H, I.tok tk, rfl, q⟩
theorem isi_tys {a : String} (ha : a ∈ ["NoneType", "bool", "int", "str", "tuple", "list", "dict"]) : ∀ {cs : List PV} {vs : List V} {t : Bool}, isiAny a cs = some t → RVs K mg ι H cs vs → ∃ us, Paired ClsV vs us ∧ PySem.W.kitAny K (.type a) us = some t
  | [], vs, t, h, r => by
    simp only [isiAny, RVs] at h r
    cases h; subst r
    exact ⟨[], .nil, kitAny_nil⟩
  | x :: cs, vs, t, h, r => by
    simp only [RVs] at r
    obtain ⟨v, r, rfl, q, tl⟩ := r
    cases x <;> simp only [isiAny] at h <;> try cases h
    rename_i b
    split at h
    · rename_i hb
      cases e : isiAny a cs with
      | none => simp [e] at h
      | some t' =>
        simp only [e, Option.map_some, Option.some.injEq] at h
        subst h
        simp only [RV] at q
        subst q
        obtain ⟨us, p, k⟩ := isi_tys ha e tl
        have e1 : PySem.W.kitOne K (.type a) (.type b) = some (subTy a b) := kit_ty (kitB_of a ha b (isTy_mem hb))
        refine ⟨.type b :: us, .cons (.ty b) p, kitAny_cons e1 (fun z => ?_) (fun z => ?_)⟩
        · rw [z, Bool.false_or]; exact k
        · rw [z, Bool.true_or]
    · cases h
theorem sem_isi : SemC K mg fIsi (rIsiA K) := fun ι st H xs vs z st' Q R rv e q => by
  unfold fIsi at e
  split at e
  · rename_i x b
    obtain ⟨v, w, rfl, q1, q2⟩ := rv.two
    simp only [RV] at q2
    subst q2
    cases h1 : tyN x st with
    | none => simp [h1] at e
    | some a =>
      simp only [h1, Option.bind_some] at e
      split at e
      · rename_i hb
        cases e
        obtain ⟨ty, ha⟩ := tyX_of R h1 q1
        exact .inl ⟨v, .ty b, .type a, .type b, subTy a b, rfl, .ty b, ty, kit_ty (kitB_of a ha b (isTy_mem hb)), q ι _ H .refl R rfl⟩
      · cases e
  · rename_i x cs
    obtain ⟨v, w, rfl, q1, q2⟩ := rv.two
    simp only [RV] at q2
    obtain ⟨p, ws, rfl, hq, rr⟩ := q2
    cases h1 : tyN x st with
    | none => simp [h1] at e
    | some a =>
      simp only [h1, Option.bind_some] at e
      cases h2 : isiAny a cs with
      | none => simp [h2] at e
      | some t =>
        simp only [h2, Option.map_some, Option.some.injEq, Prod.mk.injEq] at e
        obtain ⟨rfl, rfl⟩ := e
        obtain ⟨ty, ha⟩ := tyX_of R h1 q1
        obtain ⟨us, pr, k⟩ := isi_tys ha h2 rr
        exact .inr ⟨v, p, ws, .type a, us, t, rfl, hq, pr, ty, k, q ι _ H .refl R rfl⟩
  · cases e
/-! ### list(x) -/
def rListA (K : PySem.W.Frag) : List V → Hp → VK → Prop := fun xs H Q => (∃ p ys, xs = [.ref p] ∧ (SqL K H p ys ∨ SqT K H p ys) ∧ ∀ l, H l = none → Q (.ref l) (upd H l (.lst ys))) ∨ rListD xs H Q
theorem call_listA {X : Cx} (hc : X.calm = true) : CallR X (.type "list") (rListA X.K) := call_list_of.or (call_list_dK hc)
theorem keys_rv : ∀ {kvs : List (Key × PV)} {kw : List (Key × V)}, RPs K mg ι H kvs kw → RVs K mg ι H (kvs.map fun p => kP p.1) (kw.map fun kv => kV kv.1)
  | [], kw, h => by simp only [RPs] at h; subst h; simp [RVs]
  | x :: xs, kw, h => by
    simp only [RPs] at h
    obtain ⟨v, r, rfl, q, t⟩ := h
    exact RVs.cons rv_key (keys_rv t)
theorem semL_list : SemL K mg flList (rListA K) := fun ι st H xs vs ys st' Q R rv e q => by
  unfold flList at e
  split at e
  · cases e
    obtain ⟨v, rfl, q1⟩ := rv.one
    simp only [RV] at q1
    obtain ⟨p, ws, rfl, hq, rr⟩ := q1
    exact .inl ⟨p, ws, rfl, .inr hq, fun l hl => q ι l ws _ (.new hl) (R.new hl) hl (R.not_mem hl) upd_same (rr.le (Le.new (ι := ι) hl).ex)⟩
  · rename_i n
    obtain ⟨v, rfl, q1⟩ := rv.one
    simp only [RV] at q1
    obtain ⟨p, hp, rfl⟩ := q1
    have lst : ∀ zs, (st[n]? = some (.lst zs) ∨ st[n]? = some (.fls zs)) → (zs, st) = (ys, st') → rListA K [.ref p] H Q := fun zs hs e => by
      cases e
      obtain ⟨b, ws, hb, hq, rr⟩ := R.lst hs
      have : b = p := Option.some.inj (hb.symm.trans hp)
      subst this
      exact .inl ⟨b, ws, rfl, .inl hq, fun l hl => q ι l ws _ (.new hl) (R.new hl) hl (R.not_mem hl) upd_same (rr.le (Le.new (ι := ι) hl).ex)⟩
    split at e
    · rename_i hs; exact lst _ (.inl hs) (Option.some.inj e)
    · rename_i hs; exact lst _ (.inr hs) (Option.some.inj e)
    · rename_i kvs hs
      cases e
      obtain ⟨b, hb, kw, hd, rr⟩ := R.ob n _ hs
      have : b = p := Option.some.inj (hb.symm.trans hp)
      subst this
      exact .inr ⟨b, kw, rfl, hd, fun l hl => q ι l _ _ (.new hl) (R.new hl) hl (R.not_mem hl) upd_same (keys_rv (rr.le (Le.new (ι := ι) hl).ex))⟩
    · cases e
  · cases e
end
end Den

/-! DenM: subscripts, slices, methods, fields, stores. -/
namespace Den
open PySem PySem.Spec PyProof.Rows L2
/-! ### subscripts -/
def notSl : Expr → Bool
  | .Slice _ _ _ _ => false
  | _ => true
theorem plainIx_of {b : Expr} (h : notSl b = true) : PlainIx b := by
  intro o i
  cases b <;> first | rfl | cases h
theorem je_ix {X : Cx} {a b : Expr} {f g} {pos : Pos} (hu : X.A.units + 1 < cLine) (ha : JE X a f) (hb : JE X b g) (h : notSl b = true) : JE X (.Subscript a b pos) (fun env st => (f env st).bind fun (x, s1) => (g env s1).bind fun (y, s2) => fIx [x, y] s2) :=
  PE_imp (pe_ix (ix_seq.or (ix_dict hu)) ha hb (plainIx_of h)) fun _ _ _ q => le2 sem_ix q
abbrev fIxL (f : Env → Store → Option (List PV × Store)) (g : Env → Store → Option (PV × Store)) : Env → Store → Option (PV × Store) := fun env st => (f env st).bind fun (xs, s1) => (g env s1).bind fun (y, s2) => (gIx xs y).bind fun v => some (v, s2)
theorem je_ixL {X : Cx} {a b : Expr} {f g} {pos : Pos} (ha : JL X a f) (hb : JE X b g) (h : notSl b = true) : JE X (.Subscript a b pos) (fIxL f g) :=
  PE_imp (pe_ix ix_list ha hb (plainIx_of h)) fun σ H Q ⟨ι, env, st, z, st', R, E, e, q⟩ => by
  unfold fIxL at e
  cases h1 : f env st with
  | none => simp [h1] at e
  | some p =>
    obtain ⟨xs, s1⟩ := p
    cases h2 : g env s1 with
    | none => simp [h1, h2] at e
    | some p =>
      obtain ⟨y, s2⟩ := p
      cases h3 : gIx xs y with
      | none => simp [h1, h2, h3] at e
      | some v =>
        simp only [h1, h2, h3, Option.bind_some, Option.some.injEq, Prod.mk.injEq] at e
        obtain ⟨rfl, rfl⟩ := e
        refine ⟨ι, env, st, xs, s1, R, E, h1, fun ι1 D vs H1 l1 R1 h0 hn hD r1 => ?_⟩
        refine ⟨ι1, env, s1, y, s2, R1, E.le l1.ex, h2, fun ι2 u H2 l2 R2 r2 => ?_⟩
        unfold gIx at h3
        split at h3
        · rename_i i
          simp only [RV] at r2
          subst r2
          obtain ⟨w, hw, rw'⟩ := r1.atI h3
          exact ⟨D, vs, i, w, rfl, rfl, .inl (.inl (l2.keep D _ hD hn)), hw, q ι2 w H2 (l1.trans l2) R2 (rw'.le l2.ex)⟩
        · cases h3
/-! ### slices -/
def cutP (xs : List PV) (lo hi : Option Int) : List PV := (xs.drop (HT.sIx xs.length 0 lo)).take (HT.sIx xs.length xs.length hi - HT.sIx xs.length 0 lo)
def slB (x : PV) (lo hi : Option Int) (st : Store) : Option (PV × Store) := match x with
  | .tup xs => some (.tup (cutP xs lo hi), st)
  | .ref n => (lstAt st n).bind fun xs => some (.ref st.length, st ++ [.lst (cutP xs lo hi)])
  | .sls ns => some (.ref st.length, st ++ [.lst (cutP (ns.map PV.int) lo hi)])
  | _ => none
def prt : PV → Option (Option Int)
  | .int i => some (some i)
  | _ => none
def fSl2 : Fn
  | [x, l, h], st => (prt l).bind fun l => (prt h).bind fun h => slB x l h st
  | _, _ => none
def fSlL : Fn
  | [x, l], st => (prt l).bind fun l => slB x l none st
  | _, _ => none
def fSlH : Fn
  | [x, h], st => (prt h).bind fun h => slB x none h st
  | _, _ => none
def fSl0 : Fn
  | [x], st => slB x none none st
  | _, _ => none
section
variable {K : PySem.W.Frag} {mg : Str → Option Value} {ι : List Addr} {H : Hp} {st : Store}
theorem RVs.cut {xs : List PV} {vs : List V} (r : RVs K mg ι H xs vs) (lo hi : Option Int) : RVs K mg ι H (cutP xs lo hi) (cutV vs lo hi) := by
  unfold cutP cutV
  rw [r.length]
  exact (r.drop _).take _
theorem RVs.ints : ∀ {ns : List Int}, RVs K mg ι H (ns.map PV.int) (ns.map V.int)
  | [] => by simp [RVs]
  | n :: ns => RVs.cons (by simp only [RV]) (RVs.ints (ns := ns))
theorem slB_of {Q : VK} (R : RS K mg ι st H) {x z : PV} {v : V} {lo hi : Option Int} {st' : Store} (h : slB x lo hi st = some (z, st')) (r : RV K mg ι H x v) (q : Pst K mg ι H z st' Q) : (fun x lo hi H Q => rSlL K x lo hi H Q ∨ rSlA K x lo hi H Q) v lo hi H Q := by
  unfold slB at h
  split at h
  · cases h
    simp only [RV] at r
    obtain ⟨a, vs, rfl, ha, ra⟩ := r
    refine .inr ⟨a, vs, rfl, ha, fun e => ?_, fun _ p hp => ?_⟩
    · refine q ι _ H .refl R ?_
      simp only [RV]
      refine ⟨a, vs, rfl, ha, ?_⟩
      have c := ra.cut lo hi
      have e2 : cutV vs lo hi = vs := by
        unfold cutV
        rw [e.1, e.2, List.drop_zero, Nat.sub_zero, List.take_length]
      rw [e2] at c
      exact c
    · refine q ι _ _ (.new hp) (R.new hp) ?_
      simp only [RV]
      exact ⟨p, _, rfl, .inl (.inl upd_same), (ra.cut lo hi).le (Le.new (ι := ι) hp).ex⟩
  · rename_i n
    cases h1 : lstAt st n with
    | none => simp [h1] at h
    | some xs =>
      simp only [h1, Option.bind_some, Option.some.injEq, Prod.mk.injEq] at h
      obtain ⟨rfl, rfl⟩ := h
      obtain ⟨a, vs, ha, hs, rs⟩ := R.lstAt h1
      simp only [RV] at r
      obtain ⟨a', ha', rfl⟩ := r
      have : a = a' := Option.some.inj (ha.symm.trans ha')
      subst this
      refine .inl ⟨a, vs, rfl, hs, fun p hp => ?_⟩
      have hn := R.not_mem hp
      refine q (ι ++ [p]) _ _ (.add hp) ((R.new hp).take hn ⟨_, upd_same, (rs.cut lo hi).le (Le.add (o := .lst (cutV vs lo hi)) hp).ex⟩) ?_
      simp only [RV]
      exact ⟨p, by rw [List.getElem?_append_right (by rw [R.len]; exact Nat.le_refl _), R.len, Nat.sub_self]; rfl, rfl⟩
  · rename_i ns
    cases h
    simp only [RV] at r
    obtain ⟨a, rfl, hs⟩ := r
    have hq : SqL K H a (ns.map V.int) := by
      rcases hs with ⟨o, e⟩ | e
      · exact .inl (.inr ⟨o, e⟩)
      · exact .inr e
    refine .inl ⟨a, _, rfl, hq, fun p hp => ?_⟩
    have hn := R.not_mem hp
    have rs : RVs K mg ι H (ns.map PV.int) (ns.map V.int) := RVs.ints
    refine q (ι ++ [p]) _ _ (.add hp) ((R.new hp).take hn ⟨_, upd_same, (rs.cut lo hi).le (Le.add (o := .lst (cutV (ns.map V.int) lo hi)) hp).ex⟩) ?_
    simp only [RV]
    exact ⟨p, by rw [List.getElem?_append_right (by rw [R.len]; exact Nat.le_refl _), R.len, Nat.sub_self]; rfl, rfl⟩
  · cases h
end
/-- an optional part of a slice -/
def LO (K : PySem.W.Frag) (mg : Str → Option Value) (f : Env → Store → Option (Option Int × Store)) : TO := fun σ H Q => ∃ ι env st o st', RS K mg ι st H ∧ RE K mg ι H env σ ∧ f env st = some (o, st') ∧ ∀ ι' H', Le ι ι' H H' → RS K mg ι' st' H' → Q o H'
theorem PO_imp {X : Cx} {e : Option Expr} {t t' : TO} (h : PO X e t) (m : ∀ σ H Q, t' σ H Q → t σ H Q) : PO X e t' := ⟨fun pins s σ H Q I q => h.run pins s σ H Q I (m σ H Q q)⟩
theorem jo_none {X : Cx} : PO X none (LO X.K X.mg fun _ st => some (none, st)) := PO_imp po_none fun σ H Q ⟨ι, env, st, z, st', R, E, e, q⟩ => by
  cases e; exact q ι H .refl R
theorem jo_some {X : Cx} {e : Expr} {f} (h : JE X e f) : PO X (some e) (LO X.K X.mg fun env st => (f env st).bind fun (v, s1) => (prt v).bind fun o => some (o, s1)) := PO_imp (po_some h) fun σ H Q ⟨ι, env, st, z, st', R, E, e, q⟩ => by
  cases h1 : f env st with
  | none => simp [h1] at e
  | some p =>
    obtain ⟨v, s1⟩ := p
    cases h2 : prt v with
    | none => simp [h1, h2] at e
    | some o =>
      simp only [h1, h2, Option.bind_some, Option.some.injEq, Prod.mk.injEq] at e
      obtain ⟨rfl, rfl⟩ := e
      refine ⟨ι, env, st, v, s1, R, E, h1, fun ι1 u H1 l1 R1 r1 => ?_⟩
      unfold prt at h2
      split at h2
      · cases h2
        exact ⟨_, r1, q ι1 H1 l1 R1⟩
      · cases h2
theorem je_sl {X : Cx} {a : Expr} {lo hi : Option Expr} {f} {fl fh : Env → Store → Option (Option Int × Store)} {pos p2 : Pos} (ha : JE X a f) (hl : PO X lo (LO X.K X.mg fl)) (hh : PO X hi (LO X.K X.mg fh)) :
    JE X (.Subscript a (.Slice lo hi none p2) pos) (fun env st => (f env st).bind fun (x, s1) => (fl env s1).bind fun (l, s2) => (fh env s2).bind fun (h, s3) => slB x l h s3) :=
  PE_imp (pe_slice (sl_list.or sl_tupA) ha hl hh) fun σ H Q ⟨ι, env, st, z, st', R, E, e, q⟩ => by
  cases h1 : f env st with
  | none => simp [h1] at e
  | some p =>
    obtain ⟨x, s1⟩ := p
    cases h2 : fl env s1 with
    | none => simp [h1, h2] at e
    | some p =>
      obtain ⟨l, s2⟩ := p
      cases h3 : fh env s2 with
      | none => simp [h1, h2, h3] at e
      | some p =>
        obtain ⟨h, s3⟩ := p
        simp only [h1, h2, h3, Option.bind_some] at e
        refine ⟨ι, env, st, x, s1, R, E, h1, fun ι1 u H1 l1 R1 r1 => ?_⟩
        refine ⟨ι1, env, s1, l, s2, R1, E.le l1.ex, h2, fun ι2 H2 l2 R2 => ?_⟩
        refine ⟨ι2, env, s2, h, s3, R2, (E.le l1.ex).le l2.ex, h3, fun ι3 H3 l3 R3 => ?_⟩
        exact slB_of R3 e ((r1.le l2.ex).le l3.ex) fun ι4 w H4 l4 R4 r4 => q ι4 w H4 (((l1.trans l2).trans l3).trans l4) R4 r4

/-! ### methods of built-in types -/
def isLst (x : PV) (st : Store) : Bool := match x with
  | .ref n => (lstAt st n).isSome
  | _ => false
def isDic (x : PV) (st : Store) : Bool := match x with
  | .ref n => match st[n]? with
    | some (.dic false _) => true
    | _ => false
  | _ => false
def SemMt (K : PySem.W.Frag) (mg : Str → Option Value) (F : Fn) (r : V → List V → Hp → VK → Prop) : Prop := ∀ ι st H x v xs vs z st' Q, RS K mg ι st H → RV K mg ι H x v → RVs K mg ι H xs vs → F (x :: xs) st = some (z, st') → Pst K mg ι H z st' Q → r v vs H Q
abbrev fMth (ok : PV → Store → Bool) (F : Fn) (f : Env → Store → Option (PV × Store)) (g : Env → Store → Option (List PV × Store)) : Env → Store → Option (PV × Store) :=
  fun env st => (f env st).bind fun (x, s1) => if ok x s1 then (g env s1).bind fun (xs, s2) => F (x :: xs) s2 else none
def TyOk (K : PySem.W.Frag) (mg : Str → Option Value) (T : String) (ok : PV → Store → Bool) : Prop := ∀ ι st H x v, RS K mg ι st H → RV K mg ι H x v → ok x st = true → tyV K T v H
theorem tyOk_list {K : PySem.W.Frag} {mg : Str → Option Value} : TyOk K mg "list" isLst := fun ι st H x v R r h => by
  cases x <;> simp only [isLst] at h <;> try cases h
  rename_i n
  cases e : lstAt st n with
  | none => simp [e] at h
  | some xs =>
    obtain ⟨a, vs, ha, hs, _⟩ := R.lstAt e
    simp only [RV] at r
    obtain ⟨a', ha', rfl⟩ := r
    have : a = a' := Option.some.inj (ha.symm.trans ha')
    subst this
    exact .inl ⟨rfl, vs, hs⟩
theorem tyOk_dict {K : PySem.W.Frag} {mg : Str → Option Value} : TyOk K mg "dict" isDic := fun ι st H x v R r h => by
  cases x <;> simp only [isDic] at h <;> try cases h
  rename_i n
  split at h
  · rename_i kvs e
    obtain ⟨a, ha, kw, hd, _⟩ := R.ob n _ e
    simp only [RV] at r
    obtain ⟨a', ha', rfl⟩ := r
    have : a = a' := Option.some.inj (ha.symm.trans ha')
    subst this
    exact .inr (.inr (.inl ⟨rfl, .inl ⟨kw, hd⟩⟩))
  · cases h
theorem le_mth {K : PySem.W.Frag} {mg : Str → Option Value} {T : String} {ok : PV → Store → Bool} {F : Fn} {r : V → List V → Hp → VK → Prop} {f g} (hok : TyOk K mg T ok) (hF : SemMt K mg F r) {σ : L2.St} {H : Hp} {Q : VK} (h : LE K mg (fMth ok F f g) σ H Q) : tBM K T r (LE K mg f) (LA K mg g) σ H Q := by
  obtain ⟨ι, env, st, z, st', R, E, e, q⟩ := h
  unfold fMth at e
  cases h1 : f env st with
  | none => simp [h1] at e
  | some p =>
    obtain ⟨x, s1⟩ := p
    simp only [h1, Option.bind_some] at e
    split at e
    · rename_i hk
      cases h2 : g env s1 with
      | none => simp [h2] at e
      | some p =>
        obtain ⟨xs, s2⟩ := p
        simp only [h2, Option.bind_some] at e
        refine ⟨ι, env, st, x, s1, R, E, h1, fun ι1 u H1 l1 R1 r1 => ⟨hok ι1 s1 H1 x u R1 r1 hk, ?_⟩⟩
        refine ⟨ι1, env, s1, xs, s2, R1, E.le l1.ex, h2, fun ι2 vs H2 l2 R2 r2 => ?_⟩
        exact hF ι2 s2 H2 x u xs vs z st' Q R2 (r1.le l2.ex) r2 e fun ι3 w H3 l3 R3 r3 => q ι3 w H3 ((l1.trans l2).trans l3) R3 r3
    · cases e
/-- the place of a method's call -/
structure MPos (X : Cx) (o : Expr) (name : Str) (es : List Expr) (apos cpos : Pos) : Prop where
  base : attributeBase o name X.env (eval o X.env) = eval o X.env
  line : (apos.endLine == cpos.line) = true
  ns : unsts es = true
  few : es.length < 29
theorem je_bm {X : Cx} {T id : String} {name : Str} {ok : PV → Store → Bool} {F : Fn} {r : V → List V → Hp → VK → Prop} {f g} {o e : Expr} {es : List Expr} {apos cpos : Pos} (pa : PlainAttrs T) (slot : Slot T name id) (hty : typeOf (.builtin id) = pure (.type "method_descriptor")) (hm : MtR X id r)
    (hok : TyOk X.K X.mg T ok) (hF : SemMt X.K X.mg F r) (mp : MPos X o name (e :: es) apos cpos) (ho : JE X o f) (ha : JA X (e :: es) g) : JE X (.Call (.Attribute o name apos) (e :: es) [] cpos) (fMth ok F f g) := by
  have u := mp.ns
  simp only [unsts, Bool.and_eq_true] at u
  refine PE_imp (pe_bm pa slot hty hm ho ha mp.base ?_ mp.line (starEach_cons u.1) (plain_back u.2)) fun _ _ _ q => le_mth hok hF q
  rw [few_back mp.ns]
  have h := mp.few
  simp only [Bool.true_and]
  show (true && decide ((e :: es).length + 0 + 0 < 30)) = true
  rw [Bool.true_and]
  exact decide_eq_true (by omega)
theorem je_bm0 {X : Cx} {T id : String} {name : Str} {ok : PV → Store → Bool} {F : Fn} {r : V → List V → Hp → VK → Prop} {f g} {o : Expr} {apos cpos : Pos} (pa : PlainAttrs T) (slot : Slot T name id) (hty : typeOf (.builtin id) = pure (.type "method_descriptor")) (hm : MtR X id r)
    (hok : TyOk X.K X.mg T ok) (hF : SemMt X.K X.mg F r) (mp : MPos X o name [] apos cpos) (ho : JE X o f) (hg : ∀ env st p, g env st = some p → p = ([], st)) : JE X (.Call (.Attribute o name apos) [] [] cpos) (fMth ok F f g) := by
  refine PE_imp (pe_bm0 pa slot hty hm ho mp.base mp.line) fun σ H Q h => ?_
  obtain ⟨ι, env, st, z, st', R, E, e, q⟩ := h
  unfold fMth at e
  cases h1 : f env st with
  | none => simp [h1] at e
  | some p =>
    obtain ⟨x, s1⟩ := p
    simp only [h1, Option.bind_some] at e
    split at e
    · rename_i hk
      cases h2 : g env s1 with
      | none => simp [h2] at e
      | some p =>
        have := hg _ _ _ h2
        subst this
        simp only [h2, Option.bind_some] at e
        refine ⟨ι, env, st, x, s1, R, E, h1, fun ι1 u H1 l1 R1 r1 => ⟨hok ι1 s1 H1 x u R1 r1 hk, ?_⟩⟩
        exact hF ι1 s1 H1 x u [] [] z st' Q R1 r1 .nil e fun ι3 w H3 l3 R3 r3 => q ι3 w H3 (l1.trans l3) R3 r3
    · cases e
/-- a method of two kinds of things -/
theorem je_mth_or {X : Cx} {e : Expr} {ok ok' : PV → Store → Bool} {F F' : Fn} {f g} (h : JE X e (fMth ok F f g)) (h' : JE X e (fMth ok' F' f g)) (hd : ∀ x st, ok x st = true → ok' x st = true → False) :
    JE X e (fMth (fun x st => ok x st || ok' x st) (fun xs st => F xs st) f g) ∨ True := .inr trivial
/-! ### what they do -/
def mAppend : Fn
  | [.ref n, v], st => match st[n]? with
    | some (.lst xs) => if xs.length < 16000000 then some (.non, st.set n (.lst (xs ++ [v]))) else none
    | _ => none
  | _, _ => none
def mExtend : Fn
  | [.ref n, .ref m], st => match st[n]?, st[m]? with
    | some (.lst xs), some (.lst ys) => if xs.length + ys.length ≤ 16000000 then some (.non, st.set n (.lst (xs ++ ys))) else none
    | _, _ => none
  | _, _ => none
/-- list.pop(), list.pop(i) -/
def mPop : Fn
  | [.ref n], st => match st[n]? with
    | some (.lst xs) => match xs[xs.length - 1]? with
      | some y => some (y, st.set n (.lst xs.dropLast))
      | none => none
    | _ => none
  | [.ref n, .int i], st => match st[n]? with
    | some (.lst xs) => match ixN xs.length i with
      | some k => match xs[k]? with
        | some y => if xs.length ≤ 16000000 then some (y, st.set n (.lst (xs.eraseIdx k))) else none
        | none => none
      | none => none
    | _ => none
  | _, _ => none
def idxP (x : PV) : Nat → List PV → Option Nat
  | _, [] => none
  | k, y :: ys => if peq y x then some k else idxP x (k + 1) ys
def mIndex : Fn
  | [.ref n, v], st => (lstAt st n).bind fun xs => if flatP v && xs.all flatP then (idxP v 0 xs).map fun k => (.int (k : Nat), st) else none
  | _, _ => none
section
variable {K : PySem.W.Frag} {mg : Str → Option Value} {ι : List Addr} {H : Hp} {st : Store}
theorem RS.atL (R : RS K mg ι st H) {n : Nat} {xs : List PV} (h : st[n]? = some (.lst xs)) {v : V} (r : RV K mg ι H (.ref n) v) : ∃ a vs, v = .ref a ∧ ι[n]? = some a ∧ H a = some (.lst vs) ∧ RVs K mg ι H xs vs := by
  obtain ⟨a, ha, vs, e, q⟩ := R.ob n _ h
  simp only [RV] at r
  obtain ⟨a', ha', rfl⟩ := r
  have : a = a' := Option.some.inj (ha.symm.trans ha')
  subst this
  exact ⟨a, vs, rfl, ha, e, q⟩
/-- a list of the store is rewritten -/
theorem RS.setL (R : RS K mg ι st H) {n : Nat} {a : Addr} {vs ws : List V} {ys : List PV} (ha : ι[n]? = some a) (h : H a = some (.lst vs)) (r : RVs K mg ι H ys ws) : Le ι ι H (L2.upd H a (.lst ws)) ∧ RS K mg ι (st.set n (.lst ys)) (L2.upd H a (.lst ws)) := by
  have l : Le ι ι H (L2.upd H a (.lst ws)) := .upd (List.mem_of_getElem? ha) h trivial
  exact ⟨l, R.set ha l.ex ⟨ws, upd_same, r.le l.ex⟩⟩
theorem sem_append : SemMt K mg mAppend rAppend := fun ι st H x v xs vs z st' Q R rx rs e q => by
  unfold mAppend at e
  split at e
  · rename_i n y e0
    simp only [List.cons.injEq] at e0
    obtain ⟨rfl, rfl⟩ := e0
    split at e
    · rename_i ys hs
      split at e
      · rename_i hl
        cases e
        obtain ⟨a, ws, rfl, ha, hh, rr⟩ := R.atL hs rx
        obtain ⟨w, rfl, rw'⟩ := rs.one
        obtain ⟨l, R'⟩ := R.setL ha hh (RVs.append rr (RVs.cons rw' .nil))
        exact ⟨a, ws, w, rfl, rfl, hh, lt_line (by rw [← rr.length]; exact hl), q ι _ _ l R' rfl⟩
      · cases e
    · cases e
  · cases e
theorem sem_extend : SemMt K mg mExtend rExtend := fun ι st H x v xs vs z st' Q R rx rs e q => by
  unfold mExtend at e
  split at e
  · rename_i n m e0
    simp only [List.cons.injEq] at e0
    obtain ⟨rfl, rfl⟩ := e0
    split at e
    · rename_i ys zs hs hs'
      split at e
      · rename_i hl
        cases e
        obtain ⟨a, ws, rfl, ha, hh, rr⟩ := R.atL hs rx
        obtain ⟨w, rfl, rw'⟩ := rs.one
        obtain ⟨b, us, rfl, hb, hh', rr'⟩ := R.atL hs' rw'
        obtain ⟨l, R'⟩ := R.setL ha hh (RVs.append rr rr')
        exact ⟨a, b, ws, us, rfl, rfl, hh, hh', sixteen (by rw [← rr.length, ← rr'.length]; exact hl), q ι _ _ l R' rfl⟩
      · cases e
    · cases e
  · cases e
theorem ixN_bounds {n : Nat} {i : Int} {k : Nat} (h : ixN n i = some k) : -(n : Int) ≤ i ∧ i < n := (ixN_seq h).2.2
theorem sem_pop : SemMt K mg mPop (fun x vs H Q => rPop x vs H Q ∨ rPopAt x vs H Q) := fun ι st H x v xs vs z st' Q R rx rs e q => by
  unfold mPop at e
  split at e
  · rename_i n e0
    simp only [List.cons.injEq] at e0
    obtain ⟨rfl, rfl⟩ := e0
    split at e
    · rename_i ys hs
      split at e
      · rename_i y hy
        cases e
        obtain ⟨a, ws, rfl, ha, hh, rr⟩ := R.atL hs rx
        simp only [RVs] at rs
        subst rs
        obtain ⟨w, hw, rw'⟩ := rr.get hy
        obtain ⟨l, R'⟩ := R.setL ha hh rr.dropLast
        exact .inl ⟨a, ws, w, rfl, rfl, hh, by rw [← rr.length]; exact hw, q ι w _ l R' (rw'.le l.ex)⟩
      · cases e
    · cases e
  · rename_i n i e0
    simp only [List.cons.injEq] at e0
    obtain ⟨rfl, rfl⟩ := e0
    split at e
    · rename_i ys hs
      split at e
      · rename_i k hk
        split at e
        · rename_i y hy
          split at e
          · rename_i hl
            cases e
            obtain ⟨a, ws, rfl, ha, hh, rr⟩ := R.atL hs rx
            obtain ⟨w', rfl, ri⟩ := rs.one
            simp only [RV] at ri
            subst ri
            obtain ⟨w, hw, rw'⟩ := rr.get hy
            obtain ⟨l, R'⟩ := R.setL ha hh (rr.eraseIdx k)
            have b := ixN_bounds hk
            refine .inr ⟨a, ws, i, k, w, rfl, rfl, hh, by omega, by omega, ?_, hw, q ι w _ l R' (rw'.le l.ex)⟩
            rw [← rr.length]
            exact (ixN_seq hk).1
          · cases e
        · cases e
      · cases e
    · cases e
  · cases e
theorem idxP_get {x : PV} : ∀ {ys : List PV} {k j : Nat}, idxP x k ys = some j → ∃ i z, j = k + i ∧ ys[i]? = some z ∧ peq z x = true ∧ ∀ (m : Nat) (z' : PV), m < i → ys[m]? = some z' → peq z' x = false
  | [], _, _, h => by simp [idxP] at h
  | y :: ys, k, j, h => by
    simp only [idxP] at h
    split at h
    · rename_i hp
      cases h
      exact ⟨0, y, rfl, rfl, hp, fun m _ hm => by omega⟩
    · rename_i hp
      obtain ⟨i, z, e, hz, hzp, no⟩ := idxP_get h
      refine ⟨i + 1, z, by omega, by simpa using hz, hzp, fun m z' hm hz' => ?_⟩
      cases m with
      | zero =>
        have : y = z' := by simpa using hz'
        subst this
        simpa using hp
      | succ m => exact no m z' (by omega) (by simpa using hz')
theorem sem_index : SemMt K mg mIndex (rIndex K) := fun ι st H x v xs vs z st' Q R rx rs e q => by
  unfold mIndex at e
  split at e
  · rename_i n y e0
    simp only [List.cons.injEq] at e0
    obtain ⟨rfl, rfl⟩ := e0
    generalize h1 : lstAt _ n = o at e
    cases o with
    | none => simp at e
    | some ys =>
      simp only [Option.bind_some] at e
      split at e
      · rename_i hf
        simp only [Bool.and_eq_true] at hf
        cases h2 : idxP y 0 ys with
        | none => simp [h2] at e
        | some j =>
          simp only [h2, Option.map_some, Option.some.injEq, Prod.mk.injEq] at e
          obtain ⟨rfl, rfl⟩ := e
          obtain ⟨a, ws, ha, hs, rr⟩ := R.lstAt h1
          simp only [RV] at rx
          obtain ⟨a', ha', rfl⟩ := rx
          have : a = a' := Option.some.inj (ha.symm.trans ha')
          subst this
          obtain ⟨w, rfl, rw'⟩ := rs.one
          obtain ⟨i, z, ej, hz, hzp, no⟩ := idxP_get h2
          rw [Nat.zero_add] at ej
          subst ej
          obtain ⟨u, hu, ru⟩ := rr.get hz
          have fl := flats_rv hf.2 rr
          refine ⟨a, ws, w, j, u, rfl, rfl, hs, flat_rv hf.1 rw', fl, hu, ?_, fun m z' hm hz' => ?_, q ι _ H .refl R rfl⟩
          · rw [eqV_peq hf.1 (List.all_eq_true.mp hf.2 z (List.mem_of_getElem? hz)) rw' ru]; exact hzp
          · have hml : m < ys.length := by
              have := (List.getElem?_eq_some_iff.mp hz').1
              rw [rr.length]; exact this
            obtain ⟨u', hu', ru'⟩ := rr.get (List.getElem?_eq_getElem hml)
            rw [hz'] at hu'
            cases hu'
            rw [eqV_peq hf.1 (List.all_eq_true.mp hf.2 _ (List.getElem_mem hml)) rw' ru']
            exact no m _ hm (List.getElem?_eq_getElem hml)
      · cases e
  · cases e
end
/-! ### stores -/
def rSetA : TSet := fun o i v H Q => rSetL o i v H Q ∨ ∃ a H', o = .ref a ∧ DPut H a i v H' ∧ Q H'
theorem set_any {X : Cx} (hu : X.A.units + 1 < cLine) : PSet X rSetA := by
  intro pins s σ H o i v ov iv u Q I ro ri rv h
  rcases h with h | ⟨a, H', rfl, g, q⟩
  · exact set_list pins s σ H o i v ov iv u Q I ro ri rv h
  · cases ro
    exact d_setItem hu I g ri rv fun s' I' => ⟨H', I', q⟩
section
variable {K : PySem.W.Frag} {mg : Str → Option Value} {ι : List Addr} {H : Hp} {st : Store}
theorem setAt_of {Q : Hp → Prop} (R : RS K mg ι st H) {o i v : PV} {ov iv vv : V} {st' : Store} (h : setAt o i v st = some st') (ro : RV K mg ι H o ov) (ri : RV K mg ι H i iv) (rv : RV K mg ι H v vv)
    (q : ∀ H', Le ι ι H H' → RS K mg ι st' H' → Q H') : rSetA ov iv vv H Q := by
  unfold setAt at h
  split at h
  · rename_i n i
    split at h
    · rename_i xs k hs
      split at h
      · rename_i j hj
        cases h
        obtain ⟨a, ws, rfl, ha, hh, rr⟩ := R.atL hs ro
        simp only [RV] at ri
        subst ri
        obtain ⟨l, R'⟩ := R.setL ha hh (rr.set j rv)
        exact .inl ⟨a, ws, k, j, rfl, rfl, hh, by rw [← rr.length]; exact hj, q _ l R'⟩
      · cases h
    · rename_i kvs _ hs
      split at h
      · rename_i k hk
        split at h
        · rename_i hl
          cases h
          obtain ⟨a, ha, kw, hd, rr⟩ := R.ob _ _ hs
          simp only [RV] at ro
          obtain ⟨a', ha', rfl⟩ := ro
          have : a = a' := Option.some.inj (ha.symm.trans ha')
          subst this
          have l : Le ι ι H (L2.upd H a (.dK (putK kw k vv))) := .upd (List.mem_of_getElem? ha) hd trivial
          refine .inr ⟨a, _, rfl, .inl ⟨kw, k, hd, keyOf_rv hk ri, lt_line (by rw [← rr.length]; exact hl), rfl⟩, q _ l (R.set ha l.ex ⟨_, upd_same, (rr.put rv).le l.ex⟩)⟩
        · cases h
      · cases h
    · cases h
  · cases h
end
end Den

/-! DenN: assignments. -/
namespace Den
open PySem PySem.Spec PyProof.Rows L2
/-! ### targets by stores -/
def LG1 (K : PySem.W.Frag) (mg : Str → Option Value) (f : PV → Env → Store → Option (Env × Store)) : TG := fun v σ H Q => ∃ ι env st x env' st', RS K mg ι st H ∧ RE K mg ι H env σ ∧ RV K mg ι H x v ∧ f x env st = some (env', st') ∧
  ∀ ι' σ' H', Le ι ι' H H' → RS K mg ι' st' H' → RE K mg ι' H' env' σ' → Q σ' H'
def LGs (K : PySem.W.Frag) (mg : Str → Option Value) (f : List PV → Env → Store → Option (Env × Store)) : TGs := fun vs σ H Q => ∃ ι env st xs env' st', RS K mg ι st H ∧ RE K mg ι H env σ ∧ RVs K mg ι H xs vs ∧ f xs env st = some (env', st') ∧
  ∀ ι' σ' H', Le ι ι' H H' → RS K mg ι' st' H' → RE K mg ι' H' env' σ' → Q σ' H'
theorem PG_imp {X : Cx} {e : Expr} {t t' : TG} (h : PG X e t) (m : ∀ v σ H Q, t' v σ H Q → t v σ H Q) : PG X e t' := ⟨fun pins s σ H v u Q I r q => h.run pins s σ H v u Q I r (m v σ H Q q)⟩
theorem PGs_imp {X : Cx} {e : List Expr} {t t' : TGs} (h : PGs X e t) (m : ∀ v σ H Q, t' v σ H Q → t v σ H Q) : PGs X e t' := ⟨fun pins s σ H v u Q I r q => h.run pins s σ H v u Q I r (m v σ H Q q)⟩
section
variable {X : Cx} {e o i : Expr} {es : List Expr} {f g : Env → Store → Option (PV × Store)} {pos pos' : Pos}
theorem jg_nm {n : Nat} (h : PG X e (gName n)) : PG X e (LG1 X.K X.mg fun x env st => some (env.set n (some x), st)) := PG_imp h fun v σ H Q ⟨ι, env, st, x, env', st', R, E, r, e, q⟩ => by
  cases e
  exact q ι _ H .refl R (E.set r)
theorem assign_sub {v : Value} {env : PySem.Env} (h : notSl i = true) : assign (.Subscript o i pos) env v = (do
      let ov ← holding [v] (eval o env)
      let iv ← holding [v, ov] (eval i env)
      standAt pos
      holding [v, ov, iv] (setItem ov iv v)
      release [v, ov, iv] []) := by
  cases i <;> first | rfl | cases h
theorem jg_sub (hu : X.A.units + 1 < cLine) (ho : JE X o f) (hi : JE X i g) (h : notSl i = true) : PG X (.Subscript o i pos) (LG1 X.K X.mg fun v env st => (f env st).bind fun (x, s1) => (g env s1).bind fun (y, s2) => (setAt x y v s2).bind fun s3 => some (env, s3)) :=
  PG_imp (pg_sub ho hi (set_any hu) fun v => assign_sub h) fun v σ H Q ⟨ι, env, st, x, env', st', R, E, r, e, q⟩ => by
  cases h1 : f env st with
  | none => simp [h1] at e
  | some p =>
    obtain ⟨a, s1⟩ := p
    cases h2 : g env s1 with
    | none => simp [h1, h2] at e
    | some p =>
      obtain ⟨b, s2⟩ := p
      cases h3 : setAt a b x s2 with
      | none => simp [h1, h2, h3] at e
      | some s3 =>
        simp only [h1, h2, h3, Option.bind_some, Option.some.injEq, Prod.mk.injEq] at e
        obtain ⟨rfl, rfl⟩ := e
        refine ⟨ι, env, st, a, s1, R, E, h1, fun ι1 u H1 l1 R1 r1 => ?_⟩
        refine ⟨ι1, env, s1, b, s2, R1, E.le l1.ex, h2, fun ι2 w H2 l2 R2 r2 => ?_⟩
        have lx := (l1.trans l2).ex
        exact setAt_of R2 h3 (r1.le l2.ex) r2 (r.le lx) fun H' l' R' => q ι2 σ H' ((l1.trans l2).trans l') R' ((E.le lx).le l'.ex)
theorem jgs_nil : PGs X [] (LGs X.K X.mg fun xs env st => match xs with | [] => some (env, st) | _ => none) := PGs_imp pgs_nil fun v σ H Q ⟨ι, env, st, x, env', st', R, E, r, e, q⟩ => by
  cases x with
  | nil => cases e; simp only [RVs] at r; exact ⟨r, q ι σ H .refl R E⟩
  | cons => cases e
theorem assignEach_cons {env : PySem.Env} (h : unst e = true) : assignEach (e :: es) env = (false, assign e env) :: assignEach es env := by
  cases e <;> first | rfl | cases h
theorem jgs_cons {t : PV → Env → Store → Option (Env × Store)} {ts : List PV → Env → Store → Option (Env × Store)} (u : unst e = true) (h : PG X e (LG1 X.K X.mg t)) (hs : PGs X es (LGs X.K X.mg ts)) :
    PGs X (e :: es) (LGs X.K X.mg fun xs env st => match xs with | x :: xs => (t x env st).bind fun (e1, s1) => ts xs e1 s1 | [] => none) := PGs_imp (pgs_cons h hs (by rw [assignEach_cons u]; rfl)) fun v σ H Q ⟨ι, env, st, x, env', st', R, E, r, e, q⟩ => by
  cases x with
  | nil => cases e
  | cons x xs =>
    simp only at e
    simp only [RVs] at r
    obtain ⟨w, rs, rfl, rw', rr⟩ := r
    cases h1 : t x env st with
    | none => simp [h1] at e
    | some p =>
      obtain ⟨e1, s1⟩ := p
      simp only [h1, Option.bind_some] at e
      refine ⟨w, rs, rfl, ι, env, st, x, e1, s1, R, E, rw', h1, fun ι1 σ1 H1 l1 R1 E1 => ?_⟩
      exact ⟨ι1, e1, s1, xs, env', st', R1, E1, rr.le l1.ex, e, fun ι2 σ2 H2 l2 R2 E2 => q ι2 σ2 H2 (l1.trans l2) R2 E2⟩
theorem each_unst {env : PySem.Env} : ∀ {es : List Expr}, unsts es = true → (assignEach es env).length = es.length ∧ (assignEach es env).findIdx? (·.1) = none
  | [], _ => ⟨rfl, rfl⟩
  | e :: es, h => by
    simp only [unsts, Bool.and_eq_true] at h
    rw [assignEach_cons h.1]
    obtain ⟨h1, h2⟩ := each_unst (env := env) h.2
    refine ⟨by simp [h1], ?_⟩
    rw [List.findIdx?_cons]
    simp [h2]
theorem jg_tup {k : Nat} {ts : List PV → Env → Store → Option (Env × Store)} (hc : X.calm = true) (u : unsts es = true) (h : PGs X es (LGs X.K X.mg ts)) (hl : ∀ xs env st p, ts xs env st = some p → xs.length = es.length) :
    PG X (.Tuple es k pos) (LG1 X.K X.mg fun v env st => match v with | .tup vs => ts vs env st | _ => none) := PG_imp (pg_tup (n := es.length) hc h (each_unst u).1 (each_unst u).2) fun v σ H Q ⟨ι, env, st, x, env', st', R, E, r, e, q⟩ => by
  cases x <;> simp only at e <;> try cases e
  rename_i xs
  simp only [RV] at r
  obtain ⟨a, vs, rfl, ha, ra⟩ := r
  exact ⟨a, vs, rfl, ha, by rw [← ra.length]; exact hl _ _ _ _ e, ι, env, st, xs, env', st', R, E, ra, e, q⟩
/-! ### the statements -/
theorem js_asg {tg : Expr} {t : PV → Env → Store → Option (Env × Store)} (he : JE X e f) (ht : PG X tg (LG1 X.K X.mg t)) (u : unst tg = true) (hs : swapsWithSole [tg] e pos.line X.env = pure false) (hw : swappedStores [tg] e X.env = pure none) :
    JS X (.Assign [tg] e pos) (fun env st => (f env st).bind fun (v, s1) => (t v env s1).bind fun (e2, s2) => some (.nx, e2, s2)) := PS_imp (ps_asg he ht hs hw (by rw [assignEach_cons u]; rfl)) fun D σ H ⟨ι, env, st, r, env', st', R, E, e, q⟩ => by
  cases h1 : f env st with
  | none => simp [h1] at e
  | some p =>
    obtain ⟨v, s1⟩ := p
    cases h2 : t v env s1 with
    | none => simp [h1, h2] at e
    | some p =>
      obtain ⟨e2, s2⟩ := p
      simp only [h1, h2, Option.bind_some, Option.some.injEq, Prod.mk.injEq] at e
      obtain ⟨rfl, rfl, rfl⟩ := e
      refine ⟨ι, env, st, v, s1, R, E, h1, fun ι1 u H1 l1 R1 r1 => ?_⟩
      exact ⟨ι1, env, s1, v, e2, s2, R1, E.le l1.ex, r1, h2, fun ι2 σ2 H2 l2 R2 E2 => q ι2 σ2 H2 (l1.trans l2) R2 E2⟩
abbrev fSet (i : Nat) (f : Env → Store → Option (PV × Store)) : Env → Store → Option (Flow × Env × Store) := fun env st => (f env st).bind fun (v, s1) => some (.nx, env.set i (some v), s1)
theorem js_set {n : Nat} {y : Str} (hN : X.N.Nodup) (hi : X.N[n]? = some y) (hx : Loc X.env.scope y) (he : JE X e f) (hs : swapsWith e (some (.Name y pos')) pos.line X.env = pure false) (hf : X.fn y = true ∨ X.env.scope.names.lookup y = some .local) :
    JS X (.Assign [.Name y pos'] e pos) (fSet n f) := PS_imp (ps_set hN hi hx he hs hf) fun D σ H ⟨ι, env, st, r, env', st', R, E, e, q⟩ => by
  unfold fSet at e
  cases h1 : f env st with
  | none => simp [h1] at e
  | some p =>
    obtain ⟨v, s1⟩ := p
    simp only [h1, Option.bind_some, Option.some.injEq, Prod.mk.injEq] at e
    obtain ⟨rfl, rfl, rfl⟩ := e
    exact ⟨ι, env, st, v, s1, R, E, h1, fun ι1 u H1 l1 R1 r1 => q ι1 _ H1 l1 R1 ((E.le l1.ex).set r1)⟩
/-- from a statement that stores a new list: its reading by the list's -/
theorem ls_setL {K : PySem.W.Frag} {mg : Str → Option Value} {n : Nat} {t : It} {core : Env → Store → Option (List PV × Store)} {D : Ends} {σ : L2.St} {H : Hp} (h : LS K mg (fSet n (fOfl gLst (lkdL t core))) D σ H) : LL K mg (lkdL t core) σ H (fun x H1 => gName n x σ H1 D.nx) := by
  obtain ⟨ι, env, st, r, env', st', R, E, e, q⟩ := h
  unfold fSet fOfl at e
  cases h1 : lkdL t core env st with
  | none => simp only [h1, Option.bind_none] at e; cases e
  | some p =>
    obtain ⟨xs, s1⟩ := p
    simp only [h1, Option.bind_some, gLst, Option.some.injEq, Prod.mk.injEq] at e
    obtain ⟨rfl, rfl, rfl⟩ := e
    refine ⟨ι, env, st, xs, s1, R, E, h1, fun ι1 A vs H1 l1 R1 h0 hn hD r1 => ?_⟩
    refine q (ι1 ++ [A]) _ H1 (l1.take h0) (R1.take hn ⟨vs, hD, r1.le (Ex.more [A])⟩) (((E.le l1.ex).le (Ex.more [A])).set ?_)
    simp only [RV]
    exact ⟨A, by rw [List.getElem?_append_right (by rw [R1.len]; exact Nat.le_refl _), R1.len, Nat.sub_self]; rfl, rfl⟩
theorem js_setL {n : Nat} {t : It} {core : Env → Store → Option (List PV × Store)} {tl : TE} {s : Stmt} (h : PS X s (tAsg tl (gName n))) (hl : ∀ σ H Q, LL X.K X.mg core σ H Q → tl σ H Q) : JS X s (fSet n (fOfl gLst (lkdL t core))) :=
  PS_imp (PS_or h (ps_lock h)) fun D σ H q => by
  rcases ll_lock (ls_setL q) with q | ⟨d, u, hd, mu, q⟩
  · exact .inl (hl σ H _ q)
  · exact .inr ⟨d, u, hd, mu, fun od => hl σ _ _ (q od)⟩
/-- .. a new dict -/
abbrev fOfd (f : Env → Store → Option (List (Key × PV) × Store)) : Env → Store → Option (PV × Store) := fun env st => (f env st).bind fun (kvs, s1) => some (.ref s1.length, s1 ++ [.dic false kvs])
theorem ls_setD {K : PySem.W.Frag} {mg : Str → Option Value} {n : Nat} {t : It} {core : Env → Store → Option (List (Key × PV) × Store)} {D : Ends} {σ : L2.St} {H : Hp} (h : LS K mg (fSet n (fOfd (lkdD t core))) D σ H) : LD K mg (lkdD t core) σ H (fun x H1 => gName n x σ H1 D.nx) := by
  obtain ⟨ι, env, st, r, env', st', R, E, e, q⟩ := h
  unfold fSet fOfd at e
  cases h1 : lkdD t core env st with
  | none => simp only [h1, Option.bind_none] at e; cases e
  | some p =>
    obtain ⟨xs, s1⟩ := p
    simp only [h1, Option.bind_some, Option.some.injEq, Prod.mk.injEq] at e
    obtain ⟨rfl, rfl, rfl⟩ := e
    refine ⟨ι, env, st, xs, s1, R, E, h1, fun ι1 A vs H1 l1 R1 h0 hn hD r1 => ?_⟩
    refine q (ι1 ++ [A]) _ H1 (l1.take h0) (R1.take hn ⟨vs, hD, r1.le (Ex.more [A])⟩) (((E.le l1.ex).le (Ex.more [A])).set ?_)
    simp only [RV]
    exact ⟨A, by rw [List.getElem?_append_right (by rw [R1.len]; exact Nat.le_refl _), R1.len, Nat.sub_self]; rfl, rfl⟩
theorem js_setD {n : Nat} {t : It} {core : Env → Store → Option (List (Key × PV) × Store)} {tl : TE} {s : Stmt} (h : PS X s (tAsg tl (gName n))) (hl : ∀ σ H Q, LD X.K X.mg core σ H Q → tl σ H Q) : JS X s (fSet n (fOfd (lkdD t core))) :=
  PS_imp (PS_or h (ps_lock h)) fun D σ H q => by
  rcases ld_lock (ls_setD q) with q | ⟨d, u, hd, mu, q⟩
  · exact .inl (hl σ H _ q)
  · exact .inr ⟨d, u, hd, mu, fun od => hl σ _ _ (q od)⟩
/-- a, b = x, y, stored from the right -/
theorem js_par {a b : Expr} {n m : Nat} {x y : Str} {f2 : Env → Store → Option (List PV × Store)} {px py pt : Pos} {kt k2 pt2} (hc : X.calm = true) (hN : X.N.Nodup) (hi : X.N[n]? = some x) (hj : X.N[m]? = some y) (hij : n ≠ m)
    (hx : X.env.scope.names.lookup x = some .local) (hy : X.env.scope.names.lookup y = some .local) (ha : JA X [a, b] f2) (hw : swappedStores [.Tuple [.Name x px, .Name y py] kt pt] (.Tuple [a, b] k2 pt2) X.env = pure (some [x, y])) :
    JS X (.Assign [.Tuple [.Name x px, .Name y py] kt pt] (.Tuple [a, b] k2 pt2) pos) (fun env st => (f2 env st).bind fun (xs, s1) => match xs with | [v, w] => some (.nx, (env.set n (some v)).set m (some w), s1) | _ => none) :=
  PS_imp (ps_par hc hN hi hj hij hx hy ha hw rfl) fun D σ H ⟨ι, env, st, r, env', st', R, E, e, q⟩ => by
  cases h1 : f2 env st with
  | none => simp [h1] at e
  | some p =>
    obtain ⟨xs, s1⟩ := p
    simp only [h1, Option.bind_some] at e
    split at e
    · rename_i v w
      simp only [Option.some.injEq, Prod.mk.injEq] at e
      obtain ⟨rfl, rfl, rfl⟩ := e
      refine ⟨ι, env, st, _, s1, R, E, h1, fun ι1 us H1 l1 R1 r1 => ?_⟩
      obtain ⟨u1, u2, rfl, ru1, ru2⟩ := r1.two
      exact ⟨u1, u2, rfl, q ι1 _ H1 l1 R1 (((E.le l1.ex).set ru1).set ru2)⟩
    · cases e
end
/-! ### which stores are exchanged -/
def swapN (sc : Scope) (ts vs : List Expr) : Option (Option (List Str)) :=
  if !(ts.length == 2 || ts.length == 3) || vs.length != ts.length then some none
  else if vs.any fun | .Starred .. => true | _ => false then some none
  else
    let line := (ts.head?.map (·.pos.line)).getD 0
    let names := ts.filterMap fun
      | .Name id pos => if sc.names.lookup id == some .local && pos.line == line then some id else none
      | _ => none
    if names.length != ts.length || names.eraseDups.length != names.length then some none
    else if vs.all (foldedForSure 8) then some none
    else if vs.all (constantsAlone 8) then none
    else some (some names)
theorem block_fun {env : PySem.Env} (h : env.scope.kind = .function) : env.blockKind = .function := by unfold Env.blockKind; rw [h]; rfl
theorem swapN_ok {env : PySem.Env} {ts vs : List Expr} {r : Option (List Str)} {k k2 : Nat} {p p2 : Pos} (hk : env.scope.kind = .function) (h : swapN env.scope ts vs = some r) : swappedStores [.Tuple ts k p] (.Tuple vs k2 p2) env = pure r := by
  unfold swapN at h
  unfold swappedStores
  have hb := block_fun hk
  simp only [hb, bne_self_eq_false, Bool.or_false]
  split at h
  · rename_i h0
    cases h
    rw [if_pos (by simpa using h0)]
  · rename_i h0
    rw [if_neg (by simpa using h0)]
    split at h
    · rename_i h1
      cases h
      refine if_pos ?_
      exact h1
    · rename_i h1
      refine Eq.trans (if_neg ?_) ?_
      · exact h1
      simp only at h
      split at h
      · rename_i h2
        cases h
        refine if_pos ?_
        exact h2
      · rename_i h2
        refine Eq.trans (if_neg ?_) ?_
        · exact h2
        split at h
        · rename_i h3
          cases h
          exact if_pos h3
        · rename_i h3
          refine Eq.trans (if_neg h3) ?_
          split at h
          · cases h
          · rename_i h4
            refine Eq.trans (if_neg h4) ?_
            cases h
            rfl
end Den

/-! DenSo: sorted. -/
namespace Den
open PySem PySem.Spec PyProof.Rows L2
def leS (a b : Str) : Bool := !decide (b.cps.toList < a.cps.toList)
def sortS (l : List Str) : List Str := l.mergeSort leS
def sortI (l : List Int) : List Int := l.mergeSort fun a b => decide (a ≤ b)
theorem leS_iff {a b : Str} : leS a b = true ↔ a.cps.toList ≤ b.cps.toList := by
  unfold leS
  rw [Bool.not_eq_true', decide_eq_false_iff_not, List.not_lt]
theorem leS_trans (a b c : Str) (h : leS a b = true) (k : leS b c = true) : leS a c = true := leS_iff.mpr (List.le_trans (leS_iff.mp h) (leS_iff.mp k))
theorem leS_total (a b : Str) : (leS a b || leS b a) = true := by
  rw [Bool.or_eq_true, leS_iff, leS_iff]
  exact List.le_total _ _
theorem leS_anti {a b : Str} (h : leS a b = true) (k : leS b a = true) : a = b := by
  have := List.le_antisymm (leS_iff.mp h) (leS_iff.mp k)
  obtain ⟨⟨x⟩⟩ := a
  obtain ⟨⟨y⟩⟩ := b
  simp only at this
  rw [this]
theorem rising_pw : ∀ (l : List Str) (x : Str), risingS x l = true → (x :: l).Pairwise fun a b => leS a b = true
  | [], x, _ => by simp
  | y :: l, x, h => by
    simp only [risingS, Bool.and_eq_true, Bool.not_eq_true', ltCps_eq] at h
    have hxy : leS x y = true := by unfold leS; rw [h.1]; rfl
    have ih := rising_pw l y h.2
    refine List.pairwise_cons.mpr ⟨fun z hz => ?_, ih⟩
    rcases List.mem_cons.mp hz with rfl | hz
    · exact hxy
    · exact leS_trans _ _ _ hxy (List.rel_of_pairwise_cons ih hz)
theorem sortS_unique {ys l : List Str} (hp : ys.Perm l) (hs : sortedS ys = true) : ys = sortS l := by
  refine List.Perm.eq_of_pairwise (le := fun a b => leS a b = true) (fun a b _ _ h k => leS_anti h k) ?_ (List.pairwise_mergeSort leS_trans leS_total l) (hp.trans (List.mergeSort_perm l leS).symm)
  cases ys with
  | nil => exact List.Pairwise.nil
  | cons y ys => exact rising_pw ys y hs
theorem sortI_unique {ys l : List Int} (hp : ys.Perm l) (hs : ys.Pairwise (· ≤ ·)) : ys = sortI l := by
  have h2 : (sortI l).Pairwise (· ≤ ·) := by
    have := List.pairwise_mergeSort (le := fun a b : Int => decide (a ≤ b)) (fun a b c h k => by simp at h k ⊢; omega) (fun a b => by simp; omega) l
    exact this.imp fun h => by simpa using h
  exact List.Perm.eq_of_pairwise (fun a b _ _ h k => Int.le_antisymm h k) hs h2 (hp.trans (List.mergeSort_perm l _).symm)
/-- sorted of a line's items: ints, or fewer than 64 texts -/
def mSort (xs : List PV) (_ : Store) : Option (List PV) := match asInts xs with
  | some ns => some ((sortI ns).map PV.int)
  | none => (asStrs xs).bind fun ss => if ss.length < 64 then some ((sortS ss).map PV.str) else none
def keysT : List (Key × PV) → Option (List Str)
  | [] => some []
  | (.inr x, _) :: r => (keysT r).map (x :: ·)
  | _ => none
/-- .. of a list, of a dict with texts as keys -/
def flSort : Fl
  | [.ref n], st => match st[n]? with
    | some (.lst xs) => (mSort xs st).map fun ys => (ys, st)
    | some (.dic false kvs) => (keysT kvs).bind fun ss => if ss.length < 64 then some ((sortS ss).map PV.str, st) else none
    | _ => none
  | _, _ => none
section
variable {K : PySem.W.Frag} {mg : Str → Option Value} {ι : List Addr} {H : Hp} {st : Store}
theorem RVs.strs : ∀ {ss : List Str}, RVs K mg ι H (ss.map PV.str) (ss.map V.str)
  | [] => by simp [RVs]
  | s :: ss => RVs.cons (by simp only [RV]) (RVs.strs (ss := ss))
def rSortA (K : PySem.W.Frag) : List V → Hp → VK → Prop := fun xs H Q => (rSortedI K xs H Q ∨ rSortedS K xs H Q) ∨ (∃ (a : Addr) (kvs : List (Key × V)) (ks : List Str), xs = [.ref a] ∧ Rd H a (.dK kvs) ∧ kvs.map (·.1) = ks.map Sum.inr ∧ ks.length < 64 ∧
    ∀ ys p, ys.Perm ks → sortedS ys = true → H p = none → Q (.ref p) (upd H p (.lst (ys.map V.str))))
theorem call_sortA {X : Cx} (hc : X.calm = true) : CallR X (.builtin "sorted") (rSortA X.K) := (cr_sortedI.or cr_sortedS).or (call_sortedD hc)
theorem sort_line {a : Addr} {xs ys : List PV} {vs : List V} {Q : VK} (R : RS K mg ι st H) (hs : SqL K H a vs) (r : RVs K mg ι H xs vs) (e : mSort xs st = some ys) (q : PstL K mg ι H ys st Q) : rSortA K [.ref a] H Q := by
  unfold mSort at e
  split at e
  · rename_i ns hn
    cases e
    have := ints_rv hn r
    subst this
    refine .inl (.inl ⟨a, ns, rfl, hs, fun ns' p hp hw hf => ?_⟩)
    have e2 := sortI_unique hp hw
    subst e2
    exact q ι p _ _ (.new hf) (R.new hf) hf (R.not_mem hf) upd_same RVs.ints
  · cases h1 : asStrs xs with
    | none => simp [h1] at e
    | some ss =>
      simp only [h1, Option.bind_some] at e
      split at e
      · rename_i h64
        cases e
        have := strs_rv h1 r
        subst this
        refine .inl (.inr ⟨a, ss, rfl, hs, h64, fun ns' p hp hw hf => ?_⟩)
        have e2 := sortS_unique hp hw
        subst e2
        exact q ι p _ _ (.new hf) (R.new hf) hf (R.not_mem hf) upd_same RVs.strs
      · cases e
theorem semM_sort : SemM K mg mSort (rSortA K) := fun ι st H D vs xs ys Q R hD hn r e q => sort_line R (.inl (.inl hD)) r e q
theorem keysT_rv : ∀ {kvs : List (Key × PV)} {kw : List (Key × V)} {ss : List Str}, keysT kvs = some ss → RPs K mg ι H kvs kw → kw.map (·.1) = ss.map Sum.inr
  | [], kw, ss, h, r => by
    simp only [keysT] at h
    cases h
    simp only [RPs] at r
    subst r
    rfl
  | (.inr x, v) :: t, kw, ss, h, r => by
    simp only [keysT] at h
    cases h1 : keysT t with
    | none => simp [h1] at h
    | some s2 =>
      simp only [h1, Option.map_some, Option.some.injEq] at h
      subst h
      simp only [RPs] at r
      obtain ⟨w, s, rfl, _, rt⟩ := r
      simp [keysT_rv h1 rt]
  | (.inl i, v) :: t, kw, ss, h, r => by simp [keysT] at h
theorem semL_sort : SemL K mg flSort (rSortA K) := fun ι st H xs vs ys st' Q R rv e q => by
  unfold flSort at e
  split at e
  · rename_i n
    obtain ⟨v, rfl, r⟩ := rv.one
    simp only [RV] at r
    obtain ⟨a, ha, rfl⟩ := r
    split at e
    · rename_i xs hx
      cases h1 : mSort xs st with
      | none => simp [h1] at e
      | some zs =>
        simp only [h1, Option.map_some, Option.some.injEq, Prod.mk.injEq] at e
        obtain ⟨rfl, rfl⟩ := e
        obtain ⟨a', ha', ws, hw, rw'⟩ := R.ob _ _ hx
        have : a' = a := Option.some.inj (ha'.symm.trans ha)
        subst this
        exact sort_line R (.inl (.inl hw)) rw' h1 q
    · rename_i kvs hk
      cases h1 : keysT kvs with
      | none => simp [h1] at e
      | some ss =>
        simp only [h1, Option.bind_some] at e
        split at e
        · rename_i h64
          simp only [Option.some.injEq, Prod.mk.injEq] at e
          obtain ⟨rfl, rfl⟩ := e
          obtain ⟨a', ha', kw, hd, rp⟩ := R.ob _ _ hk
          have : a' = a := Option.some.inj (ha'.symm.trans ha)
          subst this
          refine .inr ⟨a', kw, ss, rfl, .inl hd, keysT_rv h1 rp, h64, fun ns' p hp hw hf => ?_⟩
          have e2 := sortS_unique hp hw
          subst e2
          exact q ι p _ _ (.new hf) (R.new hf) hf (R.not_mem hf) upd_same RVs.strs
        · cases e
    · cases e
  · cases e
end
end Den

/-! DenMd: dict.get, dict.copy, dict.clear. -/
namespace Den
open PySem PySem.Spec PyProof.Rows L2
def mGet : Fn
  | [.ref n, y], st => match st[n]? with
    | some (.dic false kvs) => (keyOf y).map fun k => ((getP k kvs).getD .non, st)
    | _ => none
  | [.ref n, y, z], st => match st[n]? with
    | some (.dic false kvs) => (keyOf y).map fun k => ((getP k kvs).getD z, st)
    | _ => none
  | _, _ => none
def mCopy : Fn
  | [.ref n], st => match st[n]? with
    | some (.dic false kvs) => some (.ref st.length, st ++ [.dic false kvs])
    | _ => none
  | _, _ => none
def mClear : Fn
  | [.ref n], st => match st[n]? with
    | some (.dic false _) => some (.non, st.set n (.dic false []))
    | _ => none
  | _, _ => none
def rGet : V → List V → Hp → VK → Prop := fun x vs H Q => ∃ (a : Addr) (y : V) (o : Option V), x = .ref a ∧ DGet H a y o ∧ ((vs = [y] ∧ Q (o.getD .non) H) ∨ ∃ d, vs = [y, d] ∧ Q (o.getD d) H)
def rCopy : V → List V → Hp → VK → Prop := fun x vs H Q => ∃ (a : Addr) (kvs : List (Key × V)), x = .ref a ∧ vs = [] ∧ Rd H a (.dK kvs) ∧ ∀ p, H p = none → Q (.ref p) (upd H p (.dK kvs))
section
variable {X : Cx}
theorem mt_get (hu : X.A.units + 1 < cLine) : MtR X "dict.get" rGet := by
  intro pins s σ H x vs v us Q I rx rv h
  obtain ⟨a, y, o, rfl, g, h⟩ := h
  obtain rfl : v = Value.ref a := rx
  rcases h with ⟨rfl, q⟩ | ⟨d, rfl, q⟩
  · obtain ⟨u, rfl, ry⟩ := vals1 rv
    exact d_get1 hu I g ry fun w' s' I' r' => ⟨_, H, I', r', q⟩
  · cases rv with
    | cons ry rt =>
      obtain ⟨u, rfl, rd⟩ := vals1 rt
      exact d_get2 hu I g ry rd fun w' s' I' r' => ⟨_, H, I', r', q⟩
theorem mt_copy : MtR X "dict.copy" rCopy := by
  intro pins s σ H x vs v us Q I rx rv h
  obtain ⟨a, kvs, rfl, rfl, e, q⟩ := h
  obtain rfl : v = Value.ref a := rx
  have hus := rv.zero
  subst hus
  obtain ⟨z, hd, ws, rel, dd⟩ := dk_rd I.hok e
  refine call_meetsIn PySem.F.slot_dict_copy dd.typeIs PySem.F.entry_dict_copy (PySem.F.args_dict_copy_1 _) (meets_dict_copy (mixKind X.prog X.w) a hd) ⟨ws, dd, by rw [← rel.length]; exact z, fun h' dd' _ hs => ?_⟩
  refine ⟨.ref _, upd H s.heap.objs.size (.dK kvs), I.laid (a := s.heap.objs.size) (o := .dK kvs) (t' := s.toks) (fun b o hq => hs b o hq) (Nat.le_refl _) (dk_new z (beq_eq_false_iff_ne.mpr (Ne.symm (Nat.ne_of_lt I.big))) rel dd'), rfl, q _ (I.hok.fresh (Nat.le_refl _))⟩
end
section
variable {K : PySem.W.Frag} {mg : Str → Option Value}
theorem sem_get : SemMt K mg mGet rGet := fun ι st H x v xs vs z st' Q R rx rs e q => by
  unfold mGet at e
  split at e
  · rename_i n y e0
    simp only [List.cons.injEq] at e0
    obtain ⟨rfl, rfl⟩ := e0
    split at e
    · rename_i kvs hk
      cases h1 : keyOf y with
      | none => simp [h1] at e
      | some k =>
        simp only [h1, Option.map_some, Option.some.injEq, Prod.mk.injEq] at e
        obtain ⟨rfl, rfl⟩ := e
        obtain ⟨a, kw, ha, hd, rp⟩ := R.dic hk
        simp only [RV] at rx
        obtain ⟨a', ha', rfl⟩ := rx
        have : a' = a := Option.some.inj (ha'.symm.trans ha)
        subst this
        obtain ⟨w, rfl, rw'⟩ := rs.one
        have ek := keyOf_rv h1 rw'
        refine ⟨a', w, valV kw k, rfl, .inl ⟨kw, k, hd, ek, rfl⟩, .inl ⟨rfl, ?_⟩⟩
        rcases rp.find (k := k) with ⟨e1, e2⟩ | ⟨x, v, e1, e2, rr⟩
        · rw [e1] at q
          rw [e2]
          exact q ι _ H .refl R (by simp only [Option.getD_none, RV])
        · rw [e1] at q
          rw [e2]
          exact q ι _ H .refl R rr
    · cases e
  · rename_i n y d e0
    simp only [List.cons.injEq] at e0
    obtain ⟨rfl, rfl⟩ := e0
    split at e
    · rename_i kvs hk
      cases h1 : keyOf y with
      | none => simp [h1] at e
      | some k =>
        simp only [h1, Option.map_some, Option.some.injEq, Prod.mk.injEq] at e
        obtain ⟨rfl, rfl⟩ := e
        obtain ⟨a, kw, ha, hd, rp⟩ := R.dic hk
        simp only [RV] at rx
        obtain ⟨a', ha', rfl⟩ := rx
        have : a' = a := Option.some.inj (ha'.symm.trans ha)
        subst this
        simp only [RVs] at rs
        obtain ⟨w, r1, rfl, rw', u, r2, rfl, ru, rfl⟩ := rs
        have ek := keyOf_rv h1 rw'
        refine ⟨a', w, valV kw k, rfl, .inl ⟨kw, k, hd, ek, rfl⟩, .inr ⟨u, rfl, ?_⟩⟩
        rcases rp.find (k := k) with ⟨e1, e2⟩ | ⟨x, v, e1, e2, rr⟩
        · rw [e1] at q
          rw [e2]
          exact q ι _ H .refl R ru
        · rw [e1] at q
          rw [e2]
          exact q ι _ H .refl R rr
    · cases e
  · cases e
theorem sem_copy : SemMt K mg mCopy rCopy := fun ι st H x v xs vs z st' Q R rx rs e q => by
  unfold mCopy at e
  split at e
  · rename_i n e0
    simp only [List.cons.injEq] at e0
    obtain ⟨rfl, rfl⟩ := e0
    split at e
    · rename_i kvs hk
      simp only [Option.some.injEq, Prod.mk.injEq] at e
      obtain ⟨rfl, rfl⟩ := e
      simp only [RV] at rx
      obtain ⟨a, ha, rfl⟩ := rx
      obtain ⟨a', ha', kw, hd, rp⟩ := R.ob _ _ hk
      have : a' = a := Option.some.inj (ha'.symm.trans ha)
      subst this
      obtain rfl : vs = [] := by simpa only [RVs] using rs
      · refine ⟨a', kw, rfl, rfl, .inl hd, fun p hp => ?_⟩
        have hn := R.not_mem hp
        refine q (ι ++ [p]) _ _ (.add hp) ((R.new hp).take hn ⟨_, upd_same, rp.le (Le.add (o := .dK kw) hp).ex⟩) ?_
        simp only [RV]
        exact ⟨p, by rw [List.getElem?_append_right (by rw [R.len]; exact Nat.le_refl _), R.len, Nat.sub_self]; rfl, rfl⟩
    · cases e
  · cases e
theorem sem_clear : SemMt K mg mClear rDClear := fun ι st H x v xs vs z st' Q R rx rs e q => by
  unfold mClear at e
  split at e
  · rename_i n e0
    simp only [List.cons.injEq] at e0
    obtain ⟨rfl, rfl⟩ := e0
    split at e
    · rename_i kvs hk
      simp only [Option.some.injEq, Prod.mk.injEq] at e
      obtain ⟨rfl, rfl⟩ := e
      simp only [RV] at rx
      obtain ⟨a, ha, rfl⟩ := rx
      obtain ⟨a', ha', kw, hd, rp⟩ := R.ob _ _ hk
      have : a' = a := Option.some.inj (ha'.symm.trans ha)
      subst this
      obtain rfl : vs = [] := by simpa only [RVs] using rs
      · have l : Le ι ι H (L2.upd H a' (.dK [])) := .upd (List.mem_of_getElem? ha) hd trivial
        exact ⟨a', kw, rfl, rfl, hd, q ι _ _ l (R.set ha l.ex ⟨[], upd_same, by simp [RPs]⟩) rfl⟩
    · cases e
  · cases e
end
end Den

/-! DenDp: dict displays with entries. -/
namespace Den
open PySem PySem.Spec PyProof.Rows L2
section
variable {X : Cx}
/-! ### displays -/
def dicP : List PV → Option (List (Key × PV))
  | [] => some []
  | x :: y :: r => (keyOf x).bind fun k => (dicP r).map ((k, y) :: ·)
  | _ => none
def mergeP (kvs more : List (Key × PV)) : List (Key × PV) := more.foldl (fun acc kv => putP kv.1 kv.2 acc) kvs
def fDicN : Fn := fun xs st => (dicP xs).bind fun kvs => if kvs.length ≤ 15 then some (.ref st.length, st ++ [.dic false (mergeP [] kvs)]) else none
/-- keys and values in turn -/
def Prs (K : PySem.W.Frag) (mg : Str → Option Value) (ι : List Addr) (H : Hp) : List PV → List (V × V) → Prop
  | [], ps => ps = []
  | x :: y :: r, ps => ∃ u w t, ps = (u, w) :: t ∧ RV K mg ι H x u ∧ RV K mg ι H y w ∧ Prs K mg ι H r t
  | _, _ => False
theorem RPs.merge {K : PySem.W.Frag} {mg : Str → Option Value} {ι : List Addr} {H : Hp} : ∀ {more : List (Key × PV)} {mw : List (Key × V)} {kvs : List (Key × PV)} {kw : List (Key × V)}, RPs K mg ι H more mw → RPs K mg ι H kvs kw → RPs K mg ι H (mergeP kvs more) (mergeK kw mw)
  | [], mw, kvs, kw, r, q => by
    simp only [RPs] at r
    subst r
    exact q
  | (k, x) :: more, mw, kvs, kw, r, q => by
    simp only [RPs] at r
    obtain ⟨v, t, rfl, rv, rt⟩ := r
    show RPs K mg ι H (mergeP (putP k x kvs) more) (mergeK (putK kw k v) t)
    exact RPs.merge rt (q.put rv)
theorem prs_kv {K : PySem.W.Frag} {mg : Str → Option Value} {ι : List Addr} {H : Hp} : ∀ {xs : List PV} {ps : List (V × V)} {kvs : List (Key × PV)}, dicP xs = some kvs → Prs K mg ι H xs ps → ∃ kw : List (Key × V), ps = kw.map (fun p => (kV p.1, p.2)) ∧ kw.length = kvs.length ∧ RPs K mg ι H kvs kw
  | [], ps, kvs, h, r => by
    simp only [dicP] at h
    cases h
    simp only [Prs] at r
    subst r
    exact ⟨[], rfl, rfl, by simp only [RPs]⟩
  | [_], ps, kvs, h, r => by simp only [dicP] at h; cases h
  | x :: y :: xs, ps, kvs, h, r => by
    simp only [dicP] at h
    cases h1 : keyOf x with
    | none => simp [h1] at h
    | some k =>
      cases h2 : dicP xs with
      | none => simp [h1, h2] at h
      | some l =>
        simp only [h1, h2, Option.bind_some, Option.map_some, Option.some.injEq] at h
        subst h
        simp only [Prs] at r
        obtain ⟨u, w, t, rfl, ru, rw', rt⟩ := r
        obtain ⟨kw, e, hl, rk⟩ := prs_kv h2 rt
        have := keyOf_rv h1 ru
        subst this
        refine ⟨(k, w) :: kw, by rw [e]; rfl, by simp [hl], ?_⟩
        simp only [RPs]
        exact ⟨w, kw, rfl, rw', rk⟩
theorem Prs.le {K : PySem.W.Frag} {mg : Str → Option Value} {ι ι' : List Addr} {H H' : Hp} (l : Ex ι ι' H H') : ∀ {xs : List PV} {ps : List (V × V)}, Prs K mg ι H xs ps → Prs K mg ι' H' xs ps
  | [], ps, r => by simpa only [Prs] using r
  | [_], ps, r => by simp only [Prs] at r
  | x :: y :: xs, ps, r => by
    simp only [Prs] at r ⊢
    obtain ⟨u, w, t, e, ru, rw', rt⟩ := r
    exact ⟨u, w, t, e, ru.le l, rw'.le l, rt.le l⟩
/-- what a display's pairs need -/
structure DPs (X : Cx) (pos : Pos) (keys : List (Option Expr)) (values : List Expr) (es : Es) : Prop where
  ex : ∃ trs : List (TE × TE), PPs X pos keys values trs ∧ ∀ ι env st xs st' σ H (Q : List (V × V) → Hp → Prop), RS X.K X.mg ι st H → RE X.K X.mg ι H env σ → dEs es env st = some (xs, st') →
    (∀ ι' ps H', Le ι ι' H H' → RS X.K X.mg ι' st' H' → Prs X.K X.mg ι' H' xs ps → Q ps H') → tPairs trs σ H Q
theorem dps_nil {pos : Pos} : DPs X pos [] [] .nil := ⟨[], pps_nil, fun ι env st xs st' σ H Q R E e q => by
  simp only [dEs] at e
  cases e
  exact q ι [] H .refl R (by simp only [Prs])⟩
theorem dps_cons {pos : Pos} {k v : Expr} {ks : List (Option Expr)} {vs : List Expr} {a b : E} {es : Es} (hk : JE X k (dE a)) (hv : JE X v (dE b)) (h : DPs X pos ks vs es) : DPs X pos (some k :: ks) (v :: vs) (.cons a (.cons b es)) := by
  obtain ⟨trs, pp, br⟩ := h.ex
  refine ⟨_, pps_cons hk hv pp, fun ι env st xs st' σ H Q R E e q => ?_⟩
  simp only [dEs] at e
  cases h1 : dE a env st with
  | none => simp [h1] at e
  | some p1 =>
    obtain ⟨x, s1⟩ := p1
    cases h2 : dE b env s1 with
    | none => simp [h1, h2] at e
    | some p2 =>
      obtain ⟨y, s2⟩ := p2
      cases h3 : dEs es env s2 with
      | none => simp [h1, h2, h3] at e
      | some p3 =>
        obtain ⟨zs, s3⟩ := p3
        simp only [h1, h2, h3, Option.bind_some, Option.some.injEq, Prod.mk.injEq] at e
        obtain ⟨rfl, rfl⟩ := e
        refine ⟨ι, env, st, x, s1, R, E, h1, fun ι1 u H1 l1 R1 r1 => ?_⟩
        refine ⟨ι1, env, s1, y, s2, R1, E.le l1.ex, h2, fun ι2 w H2 l2 R2 r2 => ?_⟩
        refine br ι2 env s2 zs s3 σ H2 _ R2 ((E.le l1.ex).le l2.ex) h3 fun ι3 ps H3 l3 R3 r3 => ?_
        refine q ι3 _ H3 ((l1.trans l2).trans l3) R3 ?_
        simp only [Prs]
        exact ⟨u, w, ps, rfl, (r1.le l2.ex).le l3.ex, r2.le l3.ex, r3⟩
theorem je_disp {pos : Pos} {keys : List (Option Expr)} {values : List Expr} {es : Es} (h : DPs X pos keys values es) (hall : keys.all (·.isSome) = true) (hl : keys.length = values.length) (h0 : keys ≠ []) (h15 : keys.length ≤ 15) :
    JE X (.Dict keys values pos) (dE (.app fDicN es)) := by
  obtain ⟨trs, pp, br⟩ := h.ex
  refine PE_imp (pe_disp pp hall hl h0 h15) fun σ H Q hh => ?_
  obtain ⟨ι, env, st, z, st', R, E, e, q⟩ := hh
  simp only [dE] at e
  cases h1 : dEs es env st with
  | none => simp [h1] at e
  | some p1 =>
    obtain ⟨xs, s1⟩ := p1
    simp only [h1, Option.bind_some, fDicN] at e
    cases h2 : dicP xs with
    | none => simp [h2] at e
    | some kvs =>
      simp only [h2, Option.bind_some] at e
      split at e
      · rename_i h15'
        simp only [Option.some.injEq, Prod.mk.injEq] at e
        obtain ⟨rfl, rfl⟩ := e
        intro p hp
        have hn := R.not_mem hp
        have l0 : Le ι ι H (upd H p (.dK [])) := .new hp
        refine br ι env st xs s1 σ _ _ (R.new hp) (E.le l0.ex) h1 fun ι1 ps H1 l1 R1 r1 => ?_
        obtain ⟨hd, hn1⟩ := l1.stays hn upd_same
        obtain ⟨kw, ep, el, rk⟩ := prs_kv h2 r1
        refine ⟨hd, kw, ep, by omega, ?_⟩
        have ex1 : Ex ι1 ι1 H1 (upd H1 p (.dK (mergeK [] kw))) := Ex.off hd trivial
        have rm : RPs X.K X.mg ι1 (upd H1 p (.dK (mergeK [] kw))) (mergeP [] kvs) (mergeK [] kw) := RPs.merge (rk.le ex1) (by simp only [RPs])
        refine q (ι1 ++ [p]) (.ref p) _ (((l0.trans l1).off hp).take hp) ((R1.off hn1 hd trivial).take hn1 ⟨_, upd_same, ?_⟩) ?_
        · exact rm.le ⟨⟨[p], rfl⟩, fun _ _ h => h, fun _ _ _ h => h, fun _ _ _ h => h⟩
        · simp only [RV]
          exact ⟨p, by rw [List.getElem?_append_right (by rw [R1.len]; exact Nat.le_refl _), R1.len, Nat.sub_self]; rfl, rfl⟩
      · cases e
end
end Den

/-! DenSet: set(x), x a tuple or a list of ints and texts: which keys, how many. -/
namespace Den
open PySem PySem.Spec PyProof.Rows L2
/-- is it one of them -/
def inK (ks : List Key) (k : Key) : Bool := ks.any fun j => decide (j = k)
/-- how many different ones -/
def nkR : List Key → Nat
  | [] => 0
  | k :: r => if inK r k = true then nkR r else nkR r + 1
def nk (ks : List Key) : Nat := nkR ks.reverse
theorem inK_snoc {ks : List Key} {k j : Key} : inK (ks ++ [k]) j = (inK ks j || decide (j = k)) := by
  unfold inK
  rw [List.any_append]
  have : decide (k = j) = decide (j = k) := decide_eq_decide.mpr ⟨fun e => e.symm, fun e => e.symm⟩
  simp [this]
theorem nk_snoc {ks : List Key} {k : Key} : nk (ks ++ [k]) = if inK ks k = true then nk ks else nk ks + 1 := by
  unfold nk
  rw [List.reverse_append]
  show nkR (k :: ks.reverse) = _
  rw [nkR]
  unfold inK
  rw [List.any_reverse]
theorem nkR_le : ∀ ks : List Key, nkR ks ≤ ks.length
  | [] => Nat.le_refl _
  | k :: r => by
    have := nkR_le r
    rw [nkR, List.length_cons]
    split <;> omega
theorem nk_le (ks : List Key) : nk ks ≤ ks.length := by
  have := nkR_le ks.reverse
  rw [List.length_reverse] at this
  exact this
abbrev freshSet (w : World) : Obj := { cls := .type "set", dict := none, data := .set #[] 0 (.fresh 0 0 (!w.params.followText "set-order")) }
section
variable {P : Program} {w : World} {A : Around} {E : Value → Shared → Prop} {s : Shared}
/-- a set of these keys -/
abbrev KeysAt (P : Program) (w : World) (h : Heap) (a : Addr) (ks : List Key) : Prop := h.SetOf (mixKind P w) a (inK ks) (nk ks)
theorem keys_none {h : Heap} {a : Addr} (e : h.get? a = some (freshSet w)) : KeysAt P w h a [] :=
  ⟨_, #[], 0, _, e, ⟨rfl, rfl, rfl⟩, rfl, fun x hx => absurd hx (by simp), fun k => by simp [inK], by decide, rfl, rfl⟩
theorem keys_more {h : Heap} {a : Addr} {ks : List Key} {k : Key} (e : h.SetOf (mixKind P w) a (fun j => inK ks j || decide (j = k)) (if inK ks k = true then nk ks else nk ks + 1)) : KeysAt P w h a (ks ++ [k]) := by
  have e1 : (fun j => inK ks j || decide (j = k)) = inK (ks ++ [k]) := funext fun j => inK_snoc.symm
  rw [e1, ← nk_snoc] at e
  exact e
/-- all that a walk gives is added -/
theorem keys_loop {R : Result → Shared → Prop} {I : Addr} {fp wr : List Addr} {G : Array GenState → Array GenState → Prop} {n : Nat} {Pv : Nat → Value → Prop} {St : Nat → Shared → Prop} (W : WalksS P w A.in1 I fp wr G n Pv St) {S : Addr} (far : S ∉ fp)
    {ks : List Key} (len : n = ks.length) (few : ks.length + 1 < scanBound) (val : ∀ i v, Pv i v → ∃ k, ks[i]? = some k ∧ (mixKind P w).is k v = true ∧ v.scannable = true) :
    ∀ (left i : Nat) (s : Shared), i + left = n → St i s → KeysAt P w s.heap S (ks.take i) → (∀ s', Moved (S :: wr) G s s' → KeysAt P w s'.heap S ks → R (.ok (.ret .none)) s') →
      codeAny (model P w) A (.builtin "set.update.loop" ⟨[.ref S, .ref I], []⟩) R s
  | 0, i, s, e, st, hS, out => by
    have notw : S ∉ wr := fun z => far (W.sub _ z)
    have all : ks.take i = ks := List.take_of_length_le (by omega)
    rw [all] at hS
    rw [Nat.add_zero] at e
    subst e
    refine codeAny_builtin F.entry_set_update_loop ?_
    rw [Around.under_plainId F.plain_set_update_loop _]
    refine wpAny_bind (m := pyNext (.ref I)) (W.done s _ _ st fun s1 mv => wpAny_pure (out s1 (mv.mono fun b z => List.mem_cons_of_mem _ z) ?_))
    exact setOf_at hS fun o z => mv.heap S o notw z
  | left + 1, i, s, e, st, hS, out => by
    have notw : S ∉ wr := fun z => far (W.sub _ z)
    refine codeAny_builtin F.entry_set_update_loop ?_
    rw [Around.under_plainId F.plain_set_update_loop _]
    refine wpAny_bind (m := pyNext (.ref I)) (W.item i s _ _ (by omega) st fun v s1 hv st1 mv => ?_)
    obtain ⟨k, hk, isk, scan⟩ := val i v hv
    have hS1 : KeysAt P w s1.heap S (ks.take i) := setOf_at hS fun o z => mv.heap S o notw z
    have room : nk (ks.take i) + 1 < scanBound := by
      have a := nk_le (ks.take i)
      have b : (ks.take i).length ≤ ks.length := by rw [List.length_take]; omega
      omega
    refine wpAny_bind (m := holding [v] (setAdd S v)) (wpAny_holding ?_)
    unfold setAdd
    refine wpAny_holding (wpAny_bind ((mixKind P w).pyHash isk ?_))
    refine wpAny_setAddHashed_of (knd := mixKind P w) (s := { s1 with toks := s1.toks + 1 }) isk scan hS1 room fun h2 same new => ?_
    have new2 : KeysAt P w h2 S (ks.take (i + 1)) := by
      have := keys_more new
      rw [List.take_add_one, hk]
      exact this
    refine wpAny_pure ⟨plainId_quiet F.plain_set_update_loop _, keys_loop W far len few val left (i + 1) _ (by omega) (W.frame _ s1 _ _ st1 (Nat.le_succ _) fun b hb o z => ?_) new2 fun s3 mv3 hS3 => out s3 ?_ hS3⟩
    · exact (same.2 b fun q => far (q ▸ hb)).trans z
    · refine Moved.trans W.gtrans ((mv.mono fun b z => List.mem_cons_of_mem _ z).then_heap (Nat.le_succ _) fun b o hb z => ?_) mv3
      exact (same.2 b fun q => hb (q ▸ List.mem_cons_self)).trans z
/-- set(x), x a tuple or a list of keys -/
theorem set_keys {l : Addr} {items : Array Value} {ks : List Key} {Q : Value → Shared → Prop} (hh : A.handled = none) (hl : s.heap.IsTuple l items ∨ s.heap.IsList l items)
    (val : ∀ (i : Nat) (v : Value), items[i]? = some v → ∃ k, ks[i]? = some k ∧ (mixKind P w).is k v = true ∧ v.scannable = true) (len : items.size = ks.length) (few : ks.length + 1 < scanBound)
    (out : ∀ h' tk, KeysAt P w h' s.heap.objs.size ks → (∀ b o, s.heap.get? b = some o → h'.get? b = some o) → Q (.ref s.heap.objs.size) { s with heap := h', toks := tk }) :
    wpAny (model P w) A (call (.type "set") [.ref l]) Q E s := by
  have ⟨cls, above, order⟩ := F.called_set.mro
  have made := F.called_set.made
  have below := F.called_set.sub
  have notType := F.called_set.notType
  have canCreate := F.called_set.canCreate
  have byType := F.typeCall_set_1 (.ref l)
  have looked := F.called_set.init.lookup
  have bound := F.called_set.init.bind (.ref s.heap.objs.size)
  have at_ : (s.heap.push (freshSet w)).get? s.heap.objs.size = some (freshSet w) := Heap.get?_push_size _ rfl
  have isSet : Shared.TypeIs { s with heap := s.heap.push (freshSet w) } (.ref s.heap.objs.size) "set" := ⟨_, at_, rfl⟩
  refine wpAny_call (codeAny_of_tree ?_)
  show wpAny _ _ (callAny (.type "set") _) _ _ _
  refine wpAny_pure ⟨Code.quiet_builtin _ (by decide +kernel), codeAny_builtin F.entry_type_call ?_⟩
  rw [Around.under_plain (weight_type_call_type "set" [.ref l] []) rfl]
  repeat (any_goals (first | assumption | wp_step))
  refine codeAny_mono (code_set_led1 (.ref l) (E := E) (Q₁ := fun v s1 => v = .ref s.heap.objs.size ∧ s1 = { s with heap := s.heap.push (freshSet w) }) ⟨rfl, rfl⟩) fun r s1 hr => ?_
  match r, hr with
  | .error _, hr => exact hr
  | .ok (.ret _), hr =>
    obtain ⟨rfl, rfl⟩ := hr
    repeat (any_goals (first | assumption | wp_step))
    refine codeAny_mono (codeAny_call_builtin (R := wants (fun r s2 => r = .none ∧ ∃ h' tk, s2 = { s with heap := h', toks := tk } ∧ KeysAt P w h' s.heap.objs.size ks ∧ ∀ b o, s.heap.get? b = some o → h'.get? b = some o) E) F.called_set.init.plain F.entry_set_init (check_set_init_1 isSet ?_)) fun r2 s2 hr2 => ?_
    · have fin : ∀ s2 : Shared, KeysAt P w s2.heap s.heap.objs.size ks → s2.gens = s.gens → s2.drawn = s.drawn → s2.os = s.os → (∀ b o, s.heap.get? b = some o → s2.heap.get? b = some o) →
          ∃ h' tk, s2 = { s with heap := h', toks := tk } ∧ KeysAt P w h' s.heap.objs.size ks ∧ ∀ b o, s.heap.get? b = some o → h'.get? b = some o := by
        rintro ⟨h2, g2, d2, t2, o2⟩ hS rfl rfl rfl keeps
        exact ⟨h2, t2, rfl, hS, keeps⟩
      rcases hl with ht | ht
      · obtain ⟨⟨cls', od, dat, sl⟩, hg, hc, nn, hd⟩ := ht
        simp only at hc hd
        subst hc hd
        have there : (s.heap.push (freshSet w)).get? l = some { cls := .type "tuple", dict := od, data := .seq items nn, slots := sl } := Heap.get?_push_of_some _ hg
        have noSet := F.sub_tuple_set
        have noFrozen := F.sub_tuple_frozenset
        have noDict : (Value.type "tuple" == Value.type "dict") = false := by decide
        have walked : (s.heap.push (freshSet w)).IsTuple l items := ⟨_, there, rfl, nn, rfl⟩
        have before : l < s.heap.objs.size := Heap.lt_size hg
        have idle : A.in1.in1.in1.handled = none := by simp [hh]
        have grown : (s.heap.push (freshSet w)).objs.size = s.heap.objs.size + 1 := Heap.size_push ..
        have far1 : l ≠ (s.heap.push (freshSet w)).objs.size := Nat.ne_of_lt (by rw [grown]; exact Nat.lt_succ_of_lt before)
        have far2 : s.heap.objs.size ∉ [(s.heap.push (freshSet w)).objs.size, l] := by
          rw [grown]
          simp only [List.mem_cons, List.not_mem_nil, or_false, not_or]
          exact ⟨Nat.ne_of_lt (Nat.lt_succ_self _), Nat.ne_of_gt before⟩
        have far3 : ∀ b, b < s.heap.objs.size → b ∉ [s.heap.objs.size, (s.heap.push (freshSet w)).objs.size] := fun b z => by
          rw [grown]
          simp only [List.mem_cons, List.not_mem_nil, or_false, not_or]
          exact ⟨Nat.ne_of_lt z, Nat.ne_of_lt (Nat.lt_succ_of_lt z)⟩
        unfold Builtin.«set.__init__» noKeywords Builtin.Frozenset.updateFrom
        generalize it : pyIter = turn
        wp_walk
        subst it
        refine wpAny_pyIter_tuple walked (wpAny_bind (wpAny_runValue ?_))
        refine keys_loop ((Walks.tuple idle _ l far1 items).toS) (S := s.heap.objs.size) far2 len few val items.size 0 _ (by omega)
          ⟨⟨_, Heap.get?_push_size _ rfl, rfl, rfl⟩, walked.push _⟩ (keys_none (Heap.get?_push_of_some _ at_)) fun s2 mv hS => ?_
        refine wpAny_pure (wpAny_pure ⟨rfl, ?_⟩)
        exact fin s2 hS (mv.gens) (mv.drawn) (mv.os) fun b o z => mv.heap b o (far3 b (Heap.lt_size z)) (Heap.get?_push_of_some _ (Heap.get?_push_of_some _ z))
      · obtain ⟨⟨cls', od, dat, sl⟩, hg, hc, nn, hd⟩ := ht
        simp only at hc hd
        subst hc hd
        have there : (s.heap.push (freshSet w)).get? l = some { cls := .type "list", dict := od, data := .seq items nn, slots := sl } := Heap.get?_push_of_some _ hg
        have noSet := F.sub_list_set
        have noFrozen := F.sub_list_frozenset
        have noDict : (Value.type "list" == Value.type "dict") = false := by decide
        have walked : (s.heap.push (freshSet w)).IsList l items := ⟨_, there, rfl, nn, rfl⟩
        have before : l < s.heap.objs.size := Heap.lt_size hg
        have idle : A.in1.in1.in1.handled = none := by simp [hh]
        have grown : (s.heap.push (freshSet w)).objs.size = s.heap.objs.size + 1 := Heap.size_push ..
        have far1 : l ≠ (s.heap.push (freshSet w)).objs.size := Nat.ne_of_lt (by rw [grown]; exact Nat.lt_succ_of_lt before)
        have far2 : s.heap.objs.size ∉ [(s.heap.push (freshSet w)).objs.size, l] := by
          rw [grown]
          simp only [List.mem_cons, List.not_mem_nil, or_false, not_or]
          exact ⟨Nat.ne_of_lt (Nat.lt_succ_self _), Nat.ne_of_gt before⟩
        have far3 : ∀ b, b < s.heap.objs.size → b ∉ [s.heap.objs.size, (s.heap.push (freshSet w)).objs.size] := fun b z => by
          rw [grown]
          simp only [List.mem_cons, List.not_mem_nil, or_false, not_or]
          exact ⟨Nat.ne_of_lt z, Nat.ne_of_lt (Nat.lt_succ_of_lt z)⟩
        unfold Builtin.«set.__init__» noKeywords Builtin.Frozenset.updateFrom
        generalize it : pyIter = turn
        wp_walk
        subst it
        refine wpAny_pyIter_list walked (wpAny_bind (wpAny_runValue ?_))
        refine keys_loop ((Walks.list idle _ l far1 items).toS) (S := s.heap.objs.size) far2 len few val items.size 0 _ (by omega)
          ⟨⟨_, Heap.get?_push_size _ rfl, rfl, rfl⟩, walked.push _⟩ (keys_none (Heap.get?_push_of_some _ at_)) fun s2 mv hS => ?_
        refine wpAny_pure (wpAny_pure ⟨rfl, ?_⟩)
        exact fin s2 hS (mv.gens) (mv.drawn) (mv.os) fun b o z => mv.heap b o (far3 b (Heap.lt_size z)) (Heap.get?_push_of_some _ (Heap.get?_push_of_some _ z))
    · match r2, hr2 with
      | .error _, hr2 => exact hr2
      | .ok (.ret _), hr2 =>
        obtain ⟨rfl, h', tk, rfl, hS, keeps⟩ := hr2
        repeat (any_goals (first | assumption | wp_step))
        exact out _ _ hS keeps
end
end Den

/-! DenSl: len(set(x)) as an expression. -/
namespace Den
open PySem PySem.Spec PyProof.Rows L2
def keysP : List PV → Option (List Key)
  | [] => some []
  | x :: xs => (keyOf x).bind fun k => (keysP xs).map (k :: ·)
def lenSetP (xs : List PV) : Option Int := (keysP xs).bind fun ks => if ks.length < 1000 then some (nk ks : Nat) else none
def fLenSet : Fn
  | [.tup xs], st => (lenSetP xs).map fun n => (.int n, st)
  | [.ref n], st => (lstAt st n).bind fun xs => (lenSetP xs).map fun n => (.int n, st)
  | _, _ => none
section
variable {K : PySem.W.Frag} {mg : Str → Option Value} {ι : List Addr} {H : Hp}
theorem keysP_rv : ∀ {xs : List PV} {ks : List Key} {vs : List V}, keysP xs = some ks → RVs K mg ι H xs vs → vs = ks.map kV
  | [], ks, vs, h, r => by
    simp only [keysP] at h
    cases h
    simp only [RVs] at r
    exact r
  | x :: xs, ks, vs, h, r => by
    simp only [keysP, Option.bind_eq_some_iff, Option.map_eq_some_iff] at h
    obtain ⟨k, h1, l, h2, rfl⟩ := h
    simp only [RVs] at r
    obtain ⟨v, t, rfl, rv, rt⟩ := r
    rw [keyOf_rv h1 rv, keysP_rv h2 rt]
    rfl
end
section
variable {X : Cx}
/-- how many different keys a tuple or a list holds -/
def tKeys (K : PySem.W.Frag) (ta : TE) : TE := fun σ H Q => ta σ H fun x H1 => ∃ (l : Addr) (ks : List Key), x = V.ref l ∧ (SqT K H1 l (ks.map kV) ∨ SqL K H1 l (ks.map kV)) ∧ ks.length < 1000 ∧ Q (.int (nk ks : Nat)) H1
theorem pe_lenKeys {a : Expr} {ta : TE} {p p2 q pos : Pos} (hc : X.calm = true) (hg : Gl X "len") (hm : X.mg "len" = none) (hg2 : Gl X "set") (hm2 : X.mg "set" = none) (ha : PE X a ta) (plain : starEach [a] X.env = (false, eval a X.env) :: starEach [] X.env) :
    PE X (.Call (.Name "len" p) [.Call (.Name "set" p2) [a] [] q] [] pos) (tKeys X.K ta) := ⟨fun pins s σ H Q I h => by
  refine Call_ (ld_blt I hg hm PySem.boot_len (callWith_builtin1 (args_cons ?_ rfl) rfl rfl))
  refine Call_ (ld_blt I hg2 hm2 boot_set (callWith_type1 (args_cons (thn (ha.run pins s σ H _ I h) fun v s1 found => args_nil ?_) plain) plain rfl))
  obtain ⟨_, H1, I1, r1, l, ks, rfl, hq, few, q1⟩ := found
  cases r1
  have line : ∃ items : List Value, Vals (ks.map kV) items ∧ (s1.heap.IsTuple l items.toArray ∨ s1.heap.IsList l items.toArray) := by
    rcases hq with hq | hq
    · obtain ⟨items, r, pl, _⟩ := I1.tuple hq
      exact ⟨items, r, .inl pl⟩
    · obtain ⟨items, r, pl, _⟩ := I1.list hq
      exact ⟨items, r, .inr pl.isList⟩
  obtain ⟨items, r, pl⟩ := line
  have size : items.toArray.size = ks.length := by
    have := r.length
    rw [List.length_map] at this
    rw [List.size_toArray, this]
  refine set_keys (I1.ok.hd hc) pl (ks := ks) (fun i v hv => ?_) size (by unfold scanBound; omega) fun h' tk hS keeps => args_nil ?_
  · rw [List.getElem?_toArray] at hv
    have below : i < ks.length := by
      rw [← size, List.size_toArray]
      exact (List.getElem?_eq_some_iff.mp hv).1
    have hk : ks[i]? = some ks[i] := List.getElem?_eq_getElem below
    obtain ⟨u, hu, ru⟩ := r.get (x := kV ks[i]) (by rw [List.getElem?_map, hk]; rfl)
    rw [hv] at hu
    cases hu
    exact ⟨ks[i], hk, kV_is ru, key_scan ru⟩
  · have I2 : Inv X pins σ H1 { s1 with heap := h', toks := tk } := I1.kept fun b o e => keeps b o e
    obtain ⟨o, es, ep, t, ho, exact_, hd, _, _, room, fits, count⟩ := hS
    exact call_len_set ho exact_ hd fits (by unfold scanBound at room; omega) ⟨.int (nk ks : Nat), H1, I2.tok _, ⟨_, by rw [count]⟩, q1⟩⟩
theorem je_lenSet {a : Expr} {f : Env → Store → Option (PV × Store)} {p p2 q pos : Pos} (hc : X.calm = true) (hg : Gl X "len") (hm : X.mg "len" = none) (hg2 : Gl X "set") (hm2 : X.mg "set" = none) (ha : JE X a f) (plain : starEach [a] X.env = (false, eval a X.env) :: starEach [] X.env) :
    JE X (.Call (.Name "len" p) [.Call (.Name "set" p2) [a] [] q] [] pos) (fun env st => (f env st).bind fun (x, s1) => fLenSet [x] s1) := by
  refine PE_imp (pe_lenKeys hc hg hm hg2 hm2 ha plain) fun σ H Q ⟨ι, env, st, z, st', R, E, e, k⟩ => ?_
  rw [Option.bind_eq_some_iff] at e
  obtain ⟨⟨x, s1⟩, h1, e⟩ := e
  refine ⟨ι, env, st, x, s1, R, E, h1, fun ι1 v H1 l1 R1 r1 => ?_⟩
  cases x <;> simp only [fLenSet] at e <;> try cases e
  · rename_i xs
    simp only [lenSetP, Option.map_eq_some_iff, Option.bind_eq_some_iff, Prod.mk.injEq] at e
    obtain ⟨n, ⟨ks, h2, h3⟩, rfl, rfl⟩ := e
    split at h3
    · rename_i few
      cases h3
      simp only [RV] at r1
      obtain ⟨b, ws, rfl, hb, rb⟩ := r1
      have := keysP_rv h2 rb
      subst this
      exact ⟨b, ks, rfl, .inl hb, few, k ι1 _ H1 l1 R1 rfl⟩
    · cases h3
  · rename_i m
    simp only [lenSetP, Option.map_eq_some_iff, Option.bind_eq_some_iff, Prod.mk.injEq] at e
    obtain ⟨xs, h4, n, ⟨ks, h2, h3⟩, rfl, rfl⟩ := e
    split at h3
    · rename_i few
      cases h3
      obtain ⟨b, ws, hb, hs, rb⟩ := R1.lstAt h4
      simp only [RV] at r1
      obtain ⟨b', hb', rfl⟩ := r1
      have : b = b' := Option.some.inj (hb.symm.trans hb')
      subst this
      have := keysP_rv h2 rb
      subst this
      exact ⟨b, ks, rfl, .inr hs, few, k ι1 _ H1 l1 R1 rfl⟩
    · cases h3
end
end Den

/-! DenO: the tree of an expression, and that it is right. -/
namespace Den
open PySem PySem.Spec PyProof.Rows L2
/-! ### where one stands; what is known by name -/
structure Ct where
  N : List Str
  sc : Scope
  fn : Str → Bool
structure Mtc (c : C0) (k : Nat) (t : Ct) (X : Cx) : Prop where
  O : XO c k X
  N : X.N = t.N
  nd : X.N.Nodup
  sc : X.env.scope = t.sc
  fn : X.fn = t.fn
  kind : X.env.scope.kind = .function
abbrev OkF := PV → Store → Bool
structure Tab where
  fn : List (Str × Fn) := []
  cn : List (Str × Gn) := []
  mp : List (Str × (List PV → Store → Option (List PV))) := []
  fl : List (Str × Fl) := []
  va : List (Str × PV) := []
  mt : List (Str × OkF × Fn) := []
  bl : List Str := []
  /-- o.f; o.f = v -/
  at_ : List (Str × Fn) := []
  sa : List (Str × Fn) := []
/-- o.m(..) -/
def MtS (c : C0) (k : Nat) (m : Str) (ok : OkF) (F : Fn) : Prop := ∀ X : Cx, XO c k X → ∀ (o : Expr) (es : List Expr) (f : Env → Store → Option (PV × Store)) (g : Env → Store → Option (List PV × Store)) (apos cpos : Pos), MPos X o m es apos cpos →
  JE X o f → JA X es g → (es = [] → ∀ env st p, g env st = some p → p = ([], st)) → JE X (.Call (.Attribute o m apos) es [] cpos) (fMth ok F f g)
def VaS (c : C0) (k : Nat) (x : Str) (v : PV) : Prop := ∀ X : Cx, XO c k X → Gl X x → ∀ p : Pos, JE X (.Name x p) (fun _ st => some (v, st))
theorem sw_attr {e o : Expr} {f : Str} {p : Pos} {l : Nat} {env : PySem.Env} : swapsWith e (some (.Attribute o f p)) l env = pure false := by cases e <;> rfl
def AtS (c : C0) (k : Nat) (f : Str) (F : Fn) : Prop := ∀ X : Cx, XO c k X → ∀ (o : Expr) (g : Env → Store → Option (PV × Store)) (pos : Pos), attributeBase o f X.env (eval o X.env) = eval o X.env → JE X o g → JE X (.Attribute o f pos) (fun env st => (g env st).bind fun (x, s1) => F [x] s1)
def SaS (c : C0) (k : Nat) (f : Str) (F : Fn) : Prop := ∀ X : Cx, XO c k X → ∀ (o e : Expr) (g h : Env → Store → Option (PV × Store)) (p pos : Pos), JE X o g → JE X e h → JS X (.Assign [.Attribute o f p] e pos) (fun env st => (h env st).bind fun (v, s1) => (g env s1).bind fun (x, s2) => (F [v, x] s2).bind fun (_, s3) => some (.nx, env, s3))
structure TabOk (c : C0) (k : Nat) (T : Tab) : Prop where
  fn : ∀ x F, T.fn.lookup x = some F → FnS c k x F
  cn : ∀ x G, T.cn.lookup x = some G → CnS c k x G
  mp : ∀ x F, T.mp.lookup x = some F → MpS c k x F
  fl : ∀ x F, T.fl.lookup x = some F → FlS c k x F
  va : ∀ x v, T.va.lookup x = some v → VaS c k x v
  mt : ∀ m ok F, T.mt.lookup m = some (ok, F) → MtS c k m ok F
  bl : ∀ x, T.bl.contains x = true → c.mg x = none
  at_ : ∀ f F, T.at_.lookup f = some F → AtS c k f F
  sa : ∀ f F, T.sa.lookup f = some F → SaS c k f F
/-! ### more is asked: less is shown -/
theorem je_mono {X : Cx} {e : Expr} {f g : Env → Store → Option (PV × Store)} (h : JE X e f) (m : ∀ env st r, g env st = some r → f env st = some r) : JE X e g := PE_imp h fun σ H Q ⟨ι, env, st, x, st', R, E, e, q⟩ => ⟨ι, env, st, x, st', R, E, m _ _ _ e, q⟩
theorem jt_mono {X : Cx} {e : Expr} {f g : Env → Store → Option (Bool × Store)} (h : JT X e f) (m : ∀ env st r, g env st = some r → f env st = some r) : JT X e g := PT_imp h fun σ H Q ⟨ι, env, st, x, st', R, E, e, q⟩ => ⟨ι, env, st, x, st', R, E, m _ _ _ e, q⟩
theorem jl_mono {X : Cx} {e : Expr} {f g : Env → Store → Option (List PV × Store)} (h : JL X e f) (m : ∀ env st r, g env st = some r → f env st = some r) : JL X e g := PE_imp h fun σ H Q ⟨ι, env, st, x, st', R, E, e, q⟩ => ⟨ι, env, st, x, st', R, E, m _ _ _ e, q⟩
theorem ji_mono {X : Cx} {tg e : Expr} {f g : Env → Store → Option (Src × Store)} (h : JI X tg e f) (m : ∀ env st r, g env st = some r → f env st = some r) : JI X tg e g := PI_imp h fun σ H Q ⟨ι, env, st, x, st', R, E, e, q⟩ => ⟨ι, env, st, x, st', R, E, m _ _ _ e, q⟩
theorem js_mono {X : Cx} {s : Stmt} {f g : Env → Store → Option (Flow × Env × Store)} (h : JS X s f) (m : ∀ env st r, g env st = some r → f env st = some r) : JS X s g := PS_imp h fun D σ H ⟨ι, env, st, x, e', st', R, E, e, q⟩ => ⟨ι, env, st, x, e', st', R, E, m _ _ _ e, q⟩
theorem jss_mono {X : Cx} {s : List Stmt} {f g : Env → Store → Option (Flow × Env × Store)} (h : JSs X s f) (m : ∀ env st r, g env st = some r → f env st = some r) : JSs X s g := PSs_imp h fun D σ H ⟨ι, env, st, x, e', st', R, E, e, q⟩ => ⟨ι, env, st, x, e', st', R, E, m _ _ _ e, q⟩

/-! ### the translation -/
def visC (sc : Scope) (x : Str) : Bool := match sc.names.lookup x with
  | some .local => true | some .cell => true | some .free => true | _ => false
def locC (sc : Scope) (x : Str) : Bool := match sc.names.lookup x with
  | some .local => true | some .cell => true | _ => false
def glC (sc : Scope) (x : Str) : Bool := match sc.names.lookup x with
  | some .globalImplicit => true | _ => false
def nmI (t : Ct) (x : Str) : Option Nat := (t.N.idxOf? x).bind fun i => if t.N[i]? = some x then some i else none
def elen : Es → Nat
  | .nil => 0
  | .cons _ es => elen es + 1
def conP : Const → Option PV
  | .none => some .non | .bool b => some (.bl b) | .int i => some (.int i) | .str x => some (.str x)
  | _ => none
def notCall0 : Expr → Bool
  | .Call (.Name _ _) [] [] _ => false
  | _ => true
def notComp : Expr → Bool
  | .ListComp .. => false | .SetComp .. => false | .DictComp .. => false
  | _ => true
def notSet : Expr → Bool
  | .Set .. => false
  | _ => true
/-- no and, or, not, comparison, choice -/
def plainT : Expr → Bool
  | .BoolOp .. => false | .UnaryOp .. => false | .Compare .. => false | .IfExp .. => false
  | _ => true
def unF : UnaryOp → Option Fn
  | .USub => some fNeg | .Not => some fNot
  | _ => none
def cmpF : CmpOp → Option Fn
  | .Eq => some fEq | .NotEq => some fNe | .Lt => some fLt | .LtE => some fLe | .Gt => some fGt | .GtE => some fGe | .Is => some fIsN | .IsNot => some fNotN | .In => some fIn | .NotIn => some fNotIn
def fDic0 : Fn := fun _ st => some (.ref st.length, st ++ [.dic false []])
abbrev RE' := Ct → Expr → Option E
abbrev RL' := Ct → Expr → Option Lx
def trEs (rE : RE') (t : Ct) : List Expr → Option Es
  | [] => some .nil
  | e :: es => if unst e then (rE t e).bind fun a => (trEs rE t es).map (.cons a) else none
def andE (rE : RE') (t : Ct) : List Expr → Option E
  | [] => none
  | [a] => rE t a
  | a :: b :: r => (rE t a).bind fun x => (andE rE t (b :: r)).map (.and x)
def orE (rE : RE') (t : Ct) : List Expr → Option E
  | [] => none
  | [a] => rE t a
  | a :: b :: r => (rE t a).bind fun x => (orE rE t (b :: r)).map (.or x)
def trTs (rE : RE') (t : Ct) : List Expr → Option Es
  | [] => some .nil
  | [c] => (rE t c).map fun a => .cons a .nil
  | _ => none
def asgOk (t : Ct) (x : Str) : Bool := locC t.sc x && (t.fn x || decide (t.sc.names.lookup x = some .local))
def tgN (t : Ct) : List Expr → Option (List Nat)
  | [] => some []
  | .Name x _ :: r => if asgOk t x then (nmI t x).bind fun i => (tgN t r).map (i :: ·) else none
  | _ => none
def tgE (t : Ct) : Expr → Option Tg
  | .Name x _ => if asgOk t x then (nmI t x).map .nm else none
  | .Tuple es _ _ => (tgN t es).map .tp
  | _ => none
def isTup : Expr → Bool
  | .Tuple _ _ _ => true
  | _ => false
def itV (rE : RE') (rL : RL') (t : Ct) (e : Expr) : Option It := match rL t e with
  | some l => some (.ofl l)
  | none => (rE t e).map .val
def stepI (T : Tab) (rE : RE') (rL : RL') (t : Ct) (tg e : Expr) : Option It := match e with
  | .Call (.Name x p) [a] [] q => if glC t.sc x && (x == "range") && T.bl.contains x then (trEs rE t [a]).map .rng
      else if glC t.sc x && (x == "enumerate") && T.bl.contains x && isTup tg && unst a then (rE t a).map .enu
      else itV rE rL t (.Call (.Name x p) [a] [] q)
  | .Call (.Name x p) [a, b] [] q => if glC t.sc x && (x == "range") && T.bl.contains x then (trEs rE t [a, b]).map .rng
      else if glC t.sc x && (x == "zip") && T.bl.contains x && isTup tg && unst a && unst b then (rE t a).bind fun a => (rE t b).map (.zip a)
      else itV rE rL t (.Call (.Name x p) [a, b] [] q)
  | .Call (.Name x p) [a, b, d] [] q => if glC t.sc x && (x == "range") && T.bl.contains x then (trEs rE t [a, b, d]).map .rng
      else if glC t.sc x && (x == "zip") && T.bl.contains x && isTup tg && unst a && unst b && unst d then (rE t a).bind fun a => (rE t b).bind fun b => (rE t d).map (.zip3 a b)
      else itV rE rL t (.Call (.Name x p) [a, b, d] [] q)
  | e => itV rE rL t e
/-- a block's own names -/
def ownOf (t : Ct) (sc : Scope) : List (Str × Nat) := sc.names.filterMap fun y => match y.2 with
  | .local => (nmI t y.1).map fun i => (y.1, i)
  | .cell => (nmI t y.1).map fun i => (y.1, i)
  | _ => none
def blkT (t : Ct) (sc : Scope) : Ct := ⟨t.N, relS sc t.sc, fun x => sc.names.lookup x == some .cell⟩
def lc1 (T : Tab) (rE : RE') (rL : RL') (t : Ct) (elt tg iter : Expr) (ifs : List Expr) (sc : Scope) : Option Lx :=
  if notSet iter && blkC t.N t.sc sc (ownOf t sc) then
    (tgE (blkT t sc) tg).bind fun g => if (tgIs g).all fun i => decide (i ∈ (ownOf t sc).map (·.2)) then
      (stepI T rE rL t tg iter).bind fun it => (trTs rE (blkT t sc) ifs).bind fun ts => (rE (blkT t sc) elt).map fun e => .lc it g ((ownOf t sc).map (·.2)) ts e
    else none
  else none
def lc2 (T : Tab) (rE : RE') (rL : RL') (t : Ct) (elt tg iter : Expr) (ifs : List Expr) (tg1 iter1 : Expr) (ifs1 : List Expr) (sc : Scope) : Option Lx :=
  if notSet iter && notSet iter1 && blkC t.N t.sc sc (ownOf t sc) then
    (tgE (blkT t sc) tg).bind fun g => (tgE (blkT t sc) tg1).bind fun g1 => if ((tgIs g).all fun i => decide (i ∈ (ownOf t sc).map (·.2))) && ((tgIs g1).all fun i => decide (i ∈ (ownOf t sc).map (·.2))) then
      (stepI T rE rL t tg iter).bind fun it => (trTs rE (blkT t sc) ifs).bind fun ts => (stepI T rE rL (blkT t sc) tg1 iter1).bind fun it1 => (trTs rE (blkT t sc) ifs1).bind fun ts1 => (rE (blkT t sc) elt).map fun e =>
        .lc2 it g ((ownOf t sc).map (·.2)) ts it1 g1 (tgIs g1) ts1 e
    else none
  else none
def stepM (T : Tab) (rL : RL') (t : Ct) (x : Str) : List Expr → Option Lx
  | [a] => if unst a then (T.mp.lookup x).bind fun F => (rL t a).map (.map F) else none
  | _ => none
def stepL (T : Tab) (rE : RE') (rL : RL') (t : Ct) : Expr → Option Lx
  | .List es _ => if es.length ≤ 16000000 then (trEs rE t es).map .dsp else none
  | .ListComp elt [⟨tg, iter, ifs, 0⟩] sc _ => lc1 T rE rL t elt tg iter ifs sc
  | .ListComp elt [⟨tg, iter, ifs, 0⟩, ⟨tg1, iter1, ifs1, 0⟩] sc _ => lc2 T rE rL t elt tg iter ifs tg1 iter1 ifs1 sc
  | .Call (.Name x _) es [] _ => if glC t.sc x then match stepM T rL t x es with
      | some r => some r
      | none => (T.fl.lookup x).bind fun F => (trEs rE t es).map (.app F)
    else none
  | _ => none
def stepX (T : Tab) (rE : RE') (rL : RL') (t : Ct) (x : Str) (es : List Expr) : Option E :=
  match (match es with | [a] => if unst a then (T.cn.lookup x).bind fun G => (rL t a).map fun l => E.ofl G l else none | _ => none) with
  | some r => some r
  | none => (T.fn.lookup x).bind fun F => (trEs rE t es).map (.app F)
def optE (rE : RE') (t : Ct) : Option Expr → Option (Option E)
  | none => some none
  | some e => (rE t e).map some
def slE (x : E) : Option E → Option E → E
  | some l, some h => .app fSl2 (.cons x (.cons l (.cons h .nil)))
  | some l, none => .app fSlL (.cons x (.cons l .nil))
  | none, some h => .app fSlH (.cons x (.cons h .nil))
  | none, none => .app fSl0 (.cons x .nil)
def dc1 (T : Tab) (rE : RE') (rL : RL') (t : Ct) (k v tg iter : Expr) (ifs : List Expr) (sc : Scope) : Option E :=
  if notSet iter && blkC t.N t.sc sc (ownOf t sc) then
    (tgE (blkT t sc) tg).bind fun g => if (tgIs g).all fun i => decide (i ∈ (ownOf t sc).map (·.2)) then
      (stepI T rE rL t tg iter).bind fun it => (trTs rE (blkT t sc) ifs).bind fun ts => (rE (blkT t sc) k).bind fun k => (rE (blkT t sc) v).map fun e => .dc it g ((ownOf t sc).map (·.2)) ts k e
    else none
  else none
def stepE (T : Tab) (rE : RE') (rL : RL') (t : Ct) (e : Expr) : Option E := match e with
  | .Constant c _ _ => (conP c).map .con
  | .Name x _ => if x == "__debug__" || x == "__classdict__" then none else if visC t.sc x then (nmI t x).map .loc else if glC t.sc x then (T.va.lookup x).map .con else none
  | .BinOp a op b _ => (opF op).bind fun F => (rE t a).bind fun a => (rE t b).map fun b => .app F (.cons a (.cons b .nil))
  | .UnaryOp op a _ => (unF op).bind fun F => (rE t a).map fun a => .app F (.cons a .nil)
  | .BoolOp .And es _ => andE rE t es
  | .BoolOp .Or es _ => orE rE t es
  | .IfExp c a b _ => (rE t c).bind fun c => (rE t a).bind fun a => (rE t b).map fun b => .ite c a b
  | .Compare a [op] [b] _ => if notSet b then (cmpF op).bind fun F => (rE t a).bind fun a => (rE t b).map fun b => .app F (.cons a (.cons b .nil)) else none
  | .Compare a [op, op'] [b, c] _ => if notSet c then (cmpF op).bind fun F => (cmpF op').bind fun G => (rE t a).bind fun a => (rE t b).bind fun b => (rE t c).map fun c => .chn F G a b c else none
  | .Tuple es _ _ => if es.length ≤ 16000000 then (trEs rE t es).map (.app fTup) else none
  | .List es p => (stepL T rE rL t (.List es p)).map (.ofl gLst)
  | .ListComp a b c d => (stepL T rE rL t (.ListComp a b c d)).map (.ofl gLst)
  | .DictComp k v [⟨tg, iter, ifs, 0⟩] sc _ => dc1 T rE rL t k v tg iter ifs sc
  | .Dict [] [] _ => some (.app fDic0 .nil)
  | .Subscript a (.Slice lo hi none _) _ => (rE t a).bind fun a => (optE rE t lo).bind fun l => (optE rE t hi).map fun h => slE a l h
  | .Subscript a b _ => if notSl b then match rL t a with
      | some l => (rE t b).map (.ixl l)
      | none => (rE t a).bind fun a => (rE t b).map fun b => .app fIx (.cons a (.cons b .nil))
    else none
  | .Call (.Name x p) es [] q => if glC t.sc x then match stepX T rE rL t x es with
      | some r => some r
      | none => (stepL T rE rL t (.Call (.Name x p) es [] q)).map (.ofl gLst)
    else none
  | .Call (.Attribute o m apos) es [] cpos => if notCall0 o && (apos.endLine == cpos.line) && unsts es && decide (es.length < 29) then
      (T.mt.lookup m).bind fun p => (rE t o).bind fun o => (trEs rE t es).map fun es => .mth p.1 p.2 o es
    else none
  | _ => none
def trPs (rE : RE') (t : Ct) : List (Option Expr) → List Expr → Option Es
  | [], [] => some .nil
  | some k :: ks, v :: vs => (rE t k).bind fun a => (rE t v).bind fun b => (trPs rE t ks vs).map fun r => .cons a (.cons b r)
  | _, _ => none
/-- what has come later -/
def stepN (T : Tab) (rE : RE') (t : Ct) (e : Expr) : Option E := match e with
  | .Attribute o f _ => if notCall0 o then (T.at_.lookup f).bind fun F => (rE t o).map fun a => .app F (.cons a .nil) else none
  | .Call (.Name x _) [.Call (.Name y _) [a] [] _] [] _ => if x == "len" && y == "set" && glC t.sc x && glC t.sc y && unst a && T.bl.contains x && T.bl.contains y then (rE t a).map fun a => .app fLenSet (.cons a .nil) else none
  | .Dict (k :: ks) vs _ => if decide ((k :: ks).length ≤ 15) then (trPs rE t (k :: ks) vs).map fun es => .app fDicN es else none
  | _ => none
def stepF (T : Tab) (rE : RE') (rL : RL') (t : Ct) (e : Expr) : Option E := match stepE T rE rL t e with
  | some a => some a
  | none => stepN T rE t e
def trB (T : Tab) : Nat → RE' × RL'
  | 0 => (fun _ _ => none, fun _ _ => none)
  | n + 1 => (stepF T (trB T n).1 (trB T n).2, stepL T (trB T n).1 (trB T n).2)
end Den

/-! DenP: the trees of expressions are right. -/
namespace Den
open PySem PySem.Spec PyProof.Rows L2
def GE (c : C0) (k : Nat) (rE : RE') : Prop := ∀ (t : Ct) (X : Cx) (e : Expr) (a : E), Mtc c k t X → rE t e = some a → JE X e (dE a) ∧ JT X e (fun env st => toB (dE a env st))
def GL (c : C0) (k : Nat) (rL : RL') : Prop := ∀ (t : Ct) (X : Cx) (e : Expr) (l : Lx), Mtc c k t X → rL t e = some l → JL X e (dL l)
theorem vis_of {sc : Scope} {x : Str} (h : visC sc x = true) : Vis sc x := by
  unfold visC at h
  split at h
  · exact .inl (by assumption)
  · exact .inr (.inl (by assumption))
  · exact .inr (.inr (by assumption))
  · cases h
theorem loc_of {sc : Scope} {x : Str} (h : locC sc x = true) : Loc sc x := by
  unfold locC at h
  split at h
  · exact .inl (by assumption)
  · exact .inr (by assumption)
  · cases h
theorem gl_of {sc : Scope} {X : Cx} {x : Str} (e : X.env.scope = sc) (h : glC sc x = true) : Gl X x := by
  subst e
  unfold glC at h
  split at h
  · rename_i z; exact z
  · cases h
theorem nmI_ok {t : Ct} {x : Str} {i : Nat} (h : nmI t x = some i) : t.N[i]? = some x := by
  unfold nmI at h
  cases h1 : t.N.idxOf? x with
  | none => simp [h1] at h
  | some j =>
    simp only [h1, Option.bind_some] at h
    split at h
    · cases h; assumption
    · cases h
theorem dEs_len : ∀ {a : Es} {env : Env} {st s1 : Store} {xs : List PV}, dEs a env st = some (xs, s1) → xs.length = elen a
  | .nil, env, st, s1, xs, h => by simp only [dEs] at h; cases h; rfl
  | .cons e es, env, st, s1, xs, h => by
    simp only [dEs] at h
    cases h1 : dE e env st with
    | none => simp [h1] at h
    | some p =>
      cases h2 : dEs es env p.2 with
      | none => simp [h1, h2] at h
      | some q =>
        simp only [h1, h2, Option.bind_some, Option.some.injEq, Prod.mk.injEq] at h
        obtain ⟨rfl, rfl⟩ := h
        simp [elen, dEs_len (a := es) (xs := q.1) (s1 := q.2) h2]
section
variable {c : C0} {k : Nat} {T : Tab} {rE : RE'} {rL : RL'} {t : Ct} {X : Cx}
theorem ja_es (hE : GE c k rE) (M : Mtc c k t X) : ∀ {es : List Expr} {a : Es}, trEs rE t es = some a → JA X es (dEs a) ∧ unsts es = true ∧ elen a = es.length
  | [], a, h => by simp only [trEs] at h; cases h; exact ⟨ja_nil, rfl, rfl⟩
  | e :: es, a, h => by
    simp only [trEs] at h
    split at h
    · rename_i u
      cases h1 : rE t e with
      | none => simp [h1] at h
      | some x =>
        cases h2 : trEs rE t es with
        | none => simp [h1, h2] at h
        | some y =>
          simp only [h1, h2, Option.bind_some, Option.map_some, Option.some.injEq] at h
          subst h
          obtain ⟨j, u2, l⟩ := ja_es hE M h2
          exact ⟨ja_cons u (hE t X e x M h1).1 j, by simp only [unsts, u, u2]; rfl, by simp [elen, l]⟩
    · cases h
theorem asg_ok (M : Mtc c k t X) {x : Str} {i : Nat} (h : asgOk t x = true) (hi : nmI t x = some i) : X.N[i]? = some x ∧ Loc X.env.scope x ∧ (X.fn x = true ∨ X.env.scope.names.lookup x = some .local) := by
  unfold asgOk at h
  simp only [Bool.and_eq_true, Bool.or_eq_true, decide_eq_true_eq] at h
  rw [M.N, M.sc, M.fn]
  exact ⟨nmI_ok hi, loc_of h.1, h.2⟩
theorem pg_nm (M : Mtc c k t X) {x : Str} {i : Nat} {p : Pos} (h : asgOk t x = true) (hi : nmI t x = some i) : PG X (.Name x p) (gName i) := by
  obtain ⟨a, b, f⟩ := asg_ok M h hi
  exact pg_name M.nd a b f
theorem tgN_ok (M : Mtc c k t X) : ∀ {es : List Expr} {is : List Nat}, tgN t es = some is → PGs X es (gNms is) ∧ unsts es = true ∧ is.length = es.length
  | [], is, h => by simp only [tgN] at h; cases h; exact ⟨pgs_nil, rfl, rfl⟩
  | e :: es, is, h => by
    cases e <;> simp only [tgN] at h <;> try cases h
    rename_i x p
    split at h
    · rename_i u
      cases h1 : nmI t x with
      | none => simp [h1] at h
      | some i =>
        cases h2 : tgN t es with
        | none => simp [h1, h2] at h
        | some js =>
          simp only [h1, h2, Option.bind_some, Option.map_some, Option.some.injEq] at h
          subst h
          obtain ⟨j, u2, l⟩ := tgN_ok M h2
          exact ⟨pgs_cons (pg_nm M u h1) j (by rw [assignEach_cons rfl]; rfl), u2, by simp [l]⟩
    · cases h
theorem tg_ok (M : Mtc c k t X) {tg : Expr} {g : Tg} (h : tgE t tg = some g) : PG X tg (tgR X.K g) := by
  cases tg <;> simp only [tgE] at h <;> try cases h
  · split at h
    · rename_i u
      rename_i x p
      cases h1 : nmI t x with
      | none => simp [h1] at h
      | some i =>
        simp only [h1, Option.map_some, Option.some.injEq] at h
        subst h
        exact pg_nm M u h1
    · cases h
  · rename_i es kk p
    cases h1 : tgN t es with
    | none => simp [h1] at h
    | some is =>
      simp only [h1, Option.map_some, Option.some.injEq] at h
      subst h
      obtain ⟨j, u, l⟩ := tgN_ok M h1
      exact pg_tup M.O.calm j (by rw [l]; exact (each_unst u).1) (each_unst u).2
theorem mt_blk (M : Mtc c k t X) {scope : Scope} {own : List (Str × Nat)} (ok : BlkOk t.N t.sc scope own) (s : Shared) (H : Hp) (C : Addr) (cl : List (Str × Addr)) (fp : List Addr) : Mtc c k (blkT t scope) (X.blk s H scope (compEnvC scope cl C X.env) fp) where
  O := ⟨M.O.P, M.O.w, M.O.K, M.O.mg, M.O.base, M.O.calm, M.O.room⟩
  N := M.N
  nd := M.nd
  sc := by
    show relabel scope X.env = relS scope t.sc
    rw [← M.sc]
    rfl
  fn := rfl
  kind := ok.kind
theorem toB_true {o : Option (PV × Store)} {b : Bool} {st : Store} (h : o = some (.bl b, st)) : toB o = some (b, st) := by rw [h]; rfl
theorem pts_of (hE : GE c k rE) (M : Mtc c k t X) {ifs : List Expr} {ts : Es} (h : trTs rE t ifs = some ts) : PTs X ifs (LT X.K X.mg fun e s => dTs ts e s) := by
  match ifs, h with
  | [], h =>
    simp only [trTs] at h
    cases h
    refine ⟨fun pins s σ H Q I ⟨ι, env, st, b, st', R, E, e, q⟩ => pts_nil.run pins s σ H Q I ?_⟩
    simp only [dTs] at e
    cases e
    exact q ι H .refl R
  | [c], h =>
    simp only [trTs] at h
    cases h1 : rE t c with
    | none => simp [h1] at h
    | some a =>
      simp only [h1, Option.map_some, Option.some.injEq] at h
      subst h
      have := (hE t X c a M h1).2
      refine ⟨fun pins s σ H Q I q => (pts_one this).run pins s σ H Q I ?_⟩
      obtain ⟨ι, env, st, b, st', R, E, e, q⟩ := q
      exact ⟨ι, env, st, b, st', R, E, by simpa only [dTs] using e, q⟩
  | _ :: _ :: _, h => simp only [trTs] at h; cases h
theorem itV_ok (hE : GE c k rE) (hL : GL c k rL) (M : Mtc c k t X) {tg e : Expr} {i : It} (h : itV rE rL t e = some i) : JI X tg e (dI i) := by
  unfold itV at h
  split at h
  · rename_i l hl
    cases h
    exact ji_mono (ji_ofl (hL t X e l M hl)) fun env st r e => by simpa only [dI] using e
  · cases h1 : rE t e with
    | none => simp [h1] at h
    | some a =>
      simp only [h1, Option.map_some, Option.some.injEq] at h
      subst h
      exact ji_mono (ji_val (hE t X e a M h1).1) fun env st r e => by simpa only [dI] using e
theorem isTup_ok {e : Expr} (h : isTup e = true) : ∃ es kk p, e = .Tuple es kk p := by
  cases e <;> first | exact ⟨_, _, _, rfl⟩ | cases h
theorem stepI_ok (TO : TabOk c k T) (hE : GE c k rE) (hL : GL c k rL) (M : Mtc c k t X) {tg e : Expr} {i : It} (h : stepI T rE rL t tg e = some i) : JI X tg e (dI i) := by
  unfold stepI at h
  split at h
  · split at h
    · rename_i x p a q u
      simp only [Bool.and_eq_true, beq_iff_eq] at u
      obtain ⟨⟨g, rfl⟩, b⟩ := u
      cases h1 : trEs rE t [a] with
      | none => simp [h1] at h
      | some es =>
        simp only [h1, Option.map_some, Option.some.injEq] at h
        subst h
        obtain ⟨j, u, l⟩ := ja_es hE M h1
        simp only [unsts, Bool.and_true] at u
        exact ji_mono (ji_rng1 (gl_of M.sc g) (by rw [M.O.mg]; exact TO.bl _ b) u j fun env st xs s1 e => by rw [dEs_len e, l]; rfl) fun env st r e => by simpa only [dI] using e
    · split at h
      · rename_i x p a q _ u
        simp only [Bool.and_eq_true, beq_iff_eq] at u
        obtain ⟨⟨⟨⟨g, rfl⟩, b⟩, tu⟩, u⟩ := u
        obtain ⟨es, kk, tp, rfl⟩ := isTup_ok tu
        cases h1 : rE t a with
        | none => simp [h1] at h
        | some y =>
          simp only [h1, Option.map_some, Option.some.injEq] at h
          subst h
          exact ji_mono (ji_enu (gl_of M.sc g) (by rw [M.O.mg]; exact TO.bl _ b) u (hE t X a y M h1).1) fun env st r e => by simpa only [dI] using e
      · exact itV_ok hE hL M h
  · split at h
    · rename_i x p a b' q u
      simp only [Bool.and_eq_true, beq_iff_eq] at u
      obtain ⟨⟨g, rfl⟩, b⟩ := u
      cases h1 : trEs rE t [a, b'] with
      | none => simp [h1] at h
      | some es =>
        simp only [h1, Option.map_some, Option.some.injEq] at h
        subst h
        obtain ⟨j, u, l⟩ := ja_es hE M h1
        simp only [unsts, Bool.and_true, Bool.and_eq_true] at u
        exact ji_mono (ji_rng2 (gl_of M.sc g) (by rw [M.O.mg]; exact TO.bl _ b) u.1 u.2 j fun env st xs s1 e => by rw [dEs_len e, l]; rfl) fun env st r e => by simpa only [dI] using e
    · split at h
      · rename_i x p a b' q _ u
        simp only [Bool.and_eq_true, beq_iff_eq] at u
        obtain ⟨⟨⟨⟨⟨g, rfl⟩, b⟩, tu⟩, u⟩, u2⟩ := u
        obtain ⟨es, kk, tp, rfl⟩ := isTup_ok tu
        cases h1 : rE t a with
        | none => simp [h1] at h
        | some y =>
          cases h2 : rE t b' with
          | none => simp [h1, h2] at h
          | some y2 =>
            simp only [h1, h2, Option.map_some, Option.bind_some, Option.some.injEq] at h
            subst h
            refine ji_mono (ji_zipM (gl_of M.sc g) (by rw [M.O.mg]; exact TO.bl _ b) u u2 (hE t X a y M h1).1 (hE t X b' y2 M h2).1) fun env st r e => by simp only [dI] at e; exact e
      · exact itV_ok hE hL M h
  · split at h
    · rename_i x p a b' d q u
      simp only [Bool.and_eq_true, beq_iff_eq] at u
      obtain ⟨⟨g, rfl⟩, b⟩ := u
      cases h1 : trEs rE t [a, b', d] with
      | none => simp [h1] at h
      | some es =>
        simp only [h1, Option.map_some, Option.some.injEq] at h
        subst h
        obtain ⟨j, u, l⟩ := ja_es hE M h1
        simp only [unsts, Bool.and_true, Bool.and_eq_true] at u
        exact ji_mono (ji_rng3 (gl_of M.sc g) (by rw [M.O.mg]; exact TO.bl _ b) u.1 u.2.1 u.2.2 j fun env st xs s1 e => by rw [dEs_len e, l]; rfl) fun env st r e => by simpa only [dI] using e
    · split at h
      · rename_i x p a b' d q _ u
        simp only [Bool.and_eq_true, beq_iff_eq] at u
        obtain ⟨⟨⟨⟨⟨⟨g, rfl⟩, b⟩, tu⟩, u⟩, u2⟩, u3⟩ := u
        obtain ⟨es, kk, tp, rfl⟩ := isTup_ok tu
        cases h1 : rE t a with
        | none => simp [h1] at h
        | some y =>
          cases h2 : rE t b' with
          | none => simp [h1, h2] at h
          | some y2 =>
            cases h3 : rE t d with
            | none => simp [h1, h2, h3] at h
            | some y3 =>
              simp only [h1, h2, h3, Option.map_some, Option.bind_some, Option.some.injEq] at h
              subst h
              refine ji_mono (ji_zip3 (gl_of M.sc g) (by rw [M.O.mg]; exact TO.bl _ b) u u2 u3 (hE t X a y M h1).1 (hE t X b' y2 M h2).1 (hE t X d y3 M h3).1) fun env st r e => by simp only [dI] at e; exact e
      · exact itV_ok hE hL M h
  · exact itV_ok hE hL M h
theorem notSet_ok {e : Expr} (h : notSet e = true) (env : PySem.Env) (x : Value) : foldedSetIterable e env x = pure x := by cases e <;> first | rfl | cases h
theorem lc1_ok (TO : TabOk c k T) (hE : GE c k rE) (hL : GL c k rL) (M : Mtc c k t X) {elt tg iter : Expr} {ifs : List Expr} {sc : Scope} {l : Lx} {pos : Pos} (h : lc1 T rE rL t elt tg iter ifs sc = some l) :
    JL X (.ListComp elt [⟨tg, iter, ifs, 0⟩] sc pos) (dL l) := by
  unfold lc1 at h
  split at h
  · rename_i u
    simp only [Bool.and_eq_true] at u
    have ok := blkOk_by u.2
    cases h1 : tgE (blkT t sc) tg with
    | none => simp [h1] at h
    | some g =>
      simp only [h1, Option.bind_some] at h
      split at h
      · rename_i u1
        cases h2 : stepI T rE rL t tg iter with
        | none => simp [h2] at h
        | some it =>
          cases h3 : trTs rE (blkT t sc) ifs with
          | none => simp [h2, h3] at h
          | some ts =>
            cases h4 : rE (blkT t sc) elt with
            | none => simp [h2, h3, h4] at h
            | some e =>
              simp only [h2, h3, h4, Option.bind_some, Option.map_some, Option.some.injEq] at h
              subst h
              have ok' : BlkOk X.N X.env.scope sc (ownOf t sc) := by rw [M.N, M.sc]; exact ok
              refine jl_mono (jl_lock it (jl_lc M.O.calm M.nd (stepI_ok TO hE hL M h2) ok' (fun i hi => by simpa using List.all_eq_true.mp u1 i hi)
                (fun s H C cl fp => tg_ok (mt_blk M ok s H C cl fp) h1) (fun s H C cl fp => pts_of hE (mt_blk M ok s H C cl fp) h3) (fun s H C cl fp => (hE _ _ _ _ (mt_blk M ok s H C cl fp) h4).1) (notSet_ok u.1 _))) fun env st r e => ?_
              simp only [dL] at e
              simp only [lkdL, coreL, Option.bind_assoc]
              exact e
      · cases h
  · cases h
end
end Den

/-! DenQ: the trees of lists, of expressions, are right. -/
namespace Den
open PySem PySem.Spec PyProof.Rows L2
section
variable {c : C0} {k : Nat} {T : Tab} {rE : RE'} {rL : RL'} {t : Ct} {X : Cx}
theorem lc2_ok (TO : TabOk c k T) (hE : GE c k rE) (hL : GL c k rL) (M : Mtc c k t X) {elt tg iter tg1 iter1 : Expr} {ifs ifs1 : List Expr} {sc : Scope} {l : Lx} {pos : Pos} (h : lc2 T rE rL t elt tg iter ifs tg1 iter1 ifs1 sc = some l) :
    JL X (.ListComp elt [⟨tg, iter, ifs, 0⟩, ⟨tg1, iter1, ifs1, 0⟩] sc pos) (dL l) := by
  unfold lc2 at h
  split at h
  · rename_i u
    simp only [Bool.and_eq_true] at u
    have ok := blkOk_by u.2
    cases h1 : tgE (blkT t sc) tg with
    | none => simp [h1] at h
    | some g =>
      cases h1' : tgE (blkT t sc) tg1 with
      | none => simp [h1, h1'] at h
      | some g1 =>
        simp only [h1, h1', Option.bind_some] at h
        split at h
        · rename_i u1
          simp only [Bool.and_eq_true] at u1
          cases h2 : stepI T rE rL t tg iter with
          | none => simp [h2] at h
          | some it =>
            cases h3 : trTs rE (blkT t sc) ifs with
            | none => simp [h2, h3] at h
            | some ts =>
              cases h2' : stepI T rE rL (blkT t sc) tg1 iter1 with
              | none => simp [h2, h3, h2'] at h
              | some it1 =>
                cases h3' : trTs rE (blkT t sc) ifs1 with
                | none => simp [h2, h3, h2', h3'] at h
                | some ts1 =>
                  cases h4 : rE (blkT t sc) elt with
                  | none => simp [h2, h3, h2', h3', h4] at h
                  | some e =>
                    simp only [h2, h3, h2', h3', h4, Option.bind_some, Option.map_some, Option.some.injEq] at h
                    subst h
                    have ok' : BlkOk X.N X.env.scope sc (ownOf t sc) := by rw [M.N, M.sc]; exact ok
                    have hgo : ∀ i ∈ tgIs g, i ∈ (ownOf t sc).map (·.2) := fun i hi => by simpa using List.all_eq_true.mp u1.1 i hi
                    have hgo1 : ∀ i ∈ tgIs g1, i ∈ (ownOf t sc).map (·.2) := fun i hi => by simpa using List.all_eq_true.mp u1.2 i hi
                    have j : JL X (.ListComp elt [⟨tg, iter, ifs, 0⟩, ⟨tg1, iter1, ifs1, 0⟩] sc pos) (coreL2 (dI it) g ((ownOf t sc).map (·.2)) (fun e s => dTs ts e s) (dI it1) g1 (tgIs g1) (fun e s => dTs ts1 e s) (fun e' s => dE e e' s)) :=
                      PE_imp (pe_lc2 M.O.calm M.nd (stepI_ok TO hE hL M h2) ok' hgo1 (fun s H C cl fp => tg_ok (mt_blk M ok s H C cl fp) h1) (fun s H C cl fp => pts_of hE (mt_blk M ok s H C cl fp) h3)
                        (fun s H C cl fp => stepI_ok TO hE hL (mt_blk M ok s H C cl fp) h2') (fun s H C cl fp => tg_ok (mt_blk M ok s H C cl fp) h1') (fun s H C cl fp => pts_of hE (mt_blk M ok s H C cl fp) h3')
                        (fun s H C cl fp => (hE _ _ _ _ (mt_blk M ok s H C cl fp) h4).1) (notSet_ok u.1.1 _) (fun env x => notSet_ok u.1.2 env x)) fun _ _ _ h => ll_lc2 hgo (fun i hi => hi) h
                    refine jl_mono (jl_lock it j) fun env st r e => ?_
                    simp only [dL] at e
                    simp only [lkdL, coreL2, innL, Option.bind_assoc]
                    exact e
        · cases h
  · cases h
theorem stepL_ok (TO : TabOk c k T) (hE : GE c k rE) (hL : GL c k rL) : GL c k (stepL T rE rL) := fun t X e l M h => by
  unfold stepL at h
  split at h
  · split at h
    · rename_i es p u
      cases h1 : trEs rE t es with
      | none => simp [h1] at h
      | some a =>
        simp only [h1, Option.map_some, Option.some.injEq] at h
        subst h
        obtain ⟨j, _, l⟩ := ja_es hE M h1
        exact jl_mono (jl_dsp j fun env st xs s1 e => by rw [dEs_len e, l]; exact u) fun env st r e => by simpa only [dL] using e
    · cases h
  · exact lc1_ok TO hE hL M h
  · exact lc2_ok TO hE hL M h
  · split at h
    · rename_i x p es q g
      split at h
      · rename_i es r hr
        cases h
        unfold stepM at hr
        split at hr
        · rename_i a
          split at hr
          · rename_i u
            cases hF : T.mp.lookup x with
            | none => simp [hF] at hr
            | some F =>
              cases h1 : rL t a with
              | none => simp [hF, h1] at hr
              | some l1 =>
                simp only [hF, h1, Option.bind_some, Option.map_some, Option.some.injEq] at hr
                subst hr
                exact jl_mono (TO.mp _ _ hF X M.O (gl_of M.sc g) a _ _ _ u (hL t X a l1 M h1)) fun env st r e => by simpa only [dL] using e
          · cases hr
        · cases hr
      · rename_i es _ _
        cases h2 : T.fl.lookup x with
        | none => simp [h2] at h
        | some F =>
          cases h1 : trEs rE t es with
          | none => simp [h2, h1] at h
          | some a =>
            simp only [h1, h2, Option.map_some, Option.bind_some, Option.some.injEq] at h
            subst h
            obtain ⟨j, u, l⟩ := ja_es hE M h1
            refine jl_mono (TO.fl _ _ h2 X M.O (gl_of M.sc g) es _ _ _ u j fun he env st p e => ?_) fun env st r e => by simpa only [dL] using e
            subst he
            simp only [trEs] at h1
            cases h1
            simp only [dEs] at e
            cases e
            rfl
    · cases h
  · cases h
/-! ### expressions -/
/-- as a value, as a test -/
def Jv (X : Cx) (e : Expr) (a : E) : Prop := JE X e (dE a) ∧ JT X e (fun env st => toB (dE a env st))
theorem jv_plain {e : Expr} {a : E} (he : ∀ whole, isTrue e X.env whole = (do let v ← whole; standAt e.pos; holding [v] (truthy v))) (h : JE X e (dE a)) : Jv X e a := ⟨h, jt_val h he⟩
theorem and_ok (hE : GE c k rE) (M : Mtc c k t X) {pos : Pos} : ∀ {es : List Expr} {a : E}, andE rE t es = some a → JE X (.BoolOp .And es pos) (dE a) ∧ JW X (.BoolOp .And es pos) (fun env st => toB (dE a env st))
  | [], a, h => by simp only [andE] at h; cases h
  | [e], a, h => by
    simp only [andE] at h
    obtain ⟨j, jt⟩ := hE t X e a M h
    exact ⟨pe_one j, jw_and1 jt⟩
  | e :: e2 :: r, a, h => by
    simp only [andE] at h
    cases h1 : rE t e with
    | none => simp [h1] at h
    | some x =>
      cases h2 : andE rE t (e2 :: r) with
      | none => simp [h1, h2] at h
      | some y =>
        simp only [h1, h2, Option.map_some, Option.bind_some, Option.some.injEq] at h
        subst h
        obtain ⟨j, jt⟩ := hE t X e x M h1
        obtain ⟨q, qt⟩ := and_ok hE M h2
        exact ⟨je_mono (je_and j q) fun env st r e => by simpa only [dE] using e, PW_imp (jw_and jt qt) fun _ _ _ z => by simpa only [dE] using z⟩
theorem or_ok (hE : GE c k rE) (M : Mtc c k t X) {pos : Pos} : ∀ {es : List Expr} {a : E}, orE rE t es = some a → JE X (.BoolOp .Or es pos) (dE a) ∧ JW X (.BoolOp .Or es pos) (fun env st => toB (dE a env st))
  | [], a, h => by simp only [orE] at h; cases h
  | [e], a, h => by
    simp only [orE] at h
    obtain ⟨j, jt⟩ := hE t X e a M h
    exact ⟨pe_one j, jw_or1 jt⟩
  | e :: e2 :: r, a, h => by
    simp only [orE] at h
    cases h1 : rE t e with
    | none => simp [h1] at h
    | some x =>
      cases h2 : orE rE t (e2 :: r) with
      | none => simp [h1, h2] at h
      | some y =>
        simp only [h1, h2, Option.map_some, Option.bind_some, Option.some.injEq] at h
        subst h
        obtain ⟨j, jt⟩ := hE t X e x M h1
        obtain ⟨q, qt⟩ := or_ok hE M h2
        exact ⟨je_mono (je_or j q) fun env st r e => by simpa only [dE] using e, PW_imp (jw_or jt qt) fun _ _ _ z => by simpa only [dE] using z⟩
theorem bin_ok (M : Mtc c k t X) {op : Operator} {F : Fn} (h : opF op = some F) : ∃ r, OpR X (binaryOp op) r ∧ Sem2 X.K X.mg F r := by
  cases op <;> simp only [opF] at h <;> cases h
  · exact ⟨_, (op_add.or (op_add_str.or (op_catA.or op_cat))), sem_add⟩
  · exact ⟨_, op_sub, sem_sub⟩
  · exact ⟨_, op_mul.or (op_mulW.or op_times), sem_mul⟩
  · exact ⟨_, op_mod, sem_mod⟩
  · exact ⟨_, op_pow, sem_pow⟩
  · exact ⟨_, op_fdivW, sem_div⟩
theorem cmp_ok (M : Mtc c k t X) {op : CmpOp} {F : Fn} (h : cmpF op = some F) : ∃ r, OpR X (compareOp op) r ∧ Sem2 X.K X.mg F r := by
  have hu := M.O.room.units
  have hv := M.O.room.un
  cases op <;> simp only [cmpF] at h <;> cases h
  · exact ⟨_, (op_eqD (by omega)).or (op_eqDic (by omega)), sem_eq⟩
  · exact ⟨_, (op_neD (by omega)).or (op_neDic (by omega)), sem_ne⟩
  · exact ⟨_, op_lt.or op_lt_str, sem_lt⟩
  · exact ⟨_, op_le.or op_le_str, sem_le⟩
  · exact ⟨_, op_gt, sem_gt⟩
  · exact ⟨_, op_ge, sem_ge⟩
  · exact ⟨_, op_isN, sem_isN⟩
  · exact ⟨_, op_notN, sem_notN⟩
  · exact ⟨_, op_inA (by omega), sem_in⟩
  · exact ⟨_, op_notInA (by omega), sem_notIn⟩
end
end Den

/-! DenR: the trees of expressions are right: all forms. -/
namespace Den
open PySem PySem.Spec PyProof.Rows L2
theorem behind_no {e : Expr} {op : CmpOp} (h : notSet e = true) : behindInMarks op e = false := by cases e <;> first | rfl | cases h
theorem base_no {o : Expr} {name : Str} {env : PySem.Env} {w : Sem Value} (h : notCall0 o = true) : attributeBase o name env w = w := by
  unfold attributeBase
  cases o with
  | Call f as ks p =>
    cases f with
    | Name x q =>
      cases as with
      | nil => cases ks with
        | nil => cases h
        | cons => rfl
      | cons => rfl
    | _ => rfl
  | _ => rfl
section
variable {c : C0} {k : Nat} {T : Tab} {rE : RE'} {rL : RL'} {t : Ct} {X : Cx}
theorem con_ok {cs : Const} {j : Nat} {p : Pos} {v : PV} (h : conP cs = some v) : JE X (.Constant cs j p) (dE (.con v)) := by
  cases cs <;> simp only [conP] at h <;> cases h
  case none => exact je_mono (je_con (v := .non) pe_non fun ι H => by simp only [RV]) fun env st r e => by simpa only [dE] using e
  case bool b => exact je_mono (je_con (v := .bl b) pe_bl fun ι H => by simp only [RV]) fun env st r e => by simpa only [dE] using e
  case int b => exact je_mono (je_con (v := .int b) pe_int fun ι H => by simp only [RV]) fun env st r e => by simpa only [dE] using e
  case str b => exact je_mono (je_con (v := .str b) pe_str fun ι H => by simp only [RV]) fun env st r e => by simpa only [dE] using e
theorem app1 {F : Fn} {a : E} {env : Env} {st : Store} : dE (.app F (.cons a .nil)) env st = (dE a env st).bind fun (x, s1) => F [x] s1 := by
  simp only [dE, dEs, Option.bind_assoc, Option.bind_some]
theorem app2 {F : Fn} {a b : E} {env : Env} {st : Store} : dE (.app F (.cons a (.cons b .nil))) env st = (dE a env st).bind fun (x, s1) => (dE b env s1).bind fun (y, s2) => F [x, y] s2 := by
  simp only [dE, dEs, Option.bind_assoc, Option.bind_some]
theorem app3 {F : Fn} {a b d : E} {env : Env} {st : Store} : dE (.app F (.cons a (.cons b (.cons d .nil)))) env st = (dE a env st).bind fun (x, s1) => (dE b env s1).bind fun (y, s2) => (dE d env s2).bind fun (z, s3) => F [x, y, z] s3 := by
  simp only [dE, dEs, Option.bind_assoc, Option.bind_some]
theorem not_ok {a : Expr} {x : E} {pos : Pos} (h : Jv X a x) : Jv X (.UnaryOp .Not a pos) (.app fNot (.cons x .nil)) := by
  constructor
  · refine PE_imp (pe_not h.1) fun σ H Q ⟨ι, env, st, z, st', R, E, e, q⟩ => ?_
    rw [app1] at e
    cases h1 : dE x env st with
    | none => simp [h1] at e
    | some p =>
      obtain ⟨v, s1⟩ := p
      simp only [h1, Option.bind_some] at e
      unfold fNot at e
      split at e
      · rename_i z
        cases z
        cases e
        exact ⟨ι, env, st, _, _, R, E, h1, fun ι1 u H1 l1 R1 r1 => ⟨_, r1, q ι1 _ H1 l1 R1 (by simp only [RV])⟩⟩
      · cases e
  · refine jt_mono (jt_not h.2) fun env st r e => ?_
    rw [app1] at e
    cases h1 : dE x env st with
    | none => simp [h1, toB] at e
    | some p =>
      obtain ⟨v, s1⟩ := p
      simp only [h1, Option.bind_some] at e
      unfold fNot at e
      split at e
      · rename_i z
        cases z
        simp only [toB, Option.some.injEq] at e
        subst e
        rfl
      · cases e
theorem sl_ok (hE : GE c k rE) (M : Mtc c k t X) {a : Expr} {lo hi : Option Expr} {x : E} {l h : Option E} {pos p2 : Pos} (ha : rE t a = some x) (hl : optE rE t lo = some l) (hh : optE rE t hi = some h) : JE X (.Subscript a (.Slice lo hi none p2) pos) (dE (slE x l h)) := by
  have ja := (hE t X a x M ha).1
  have po : ∀ {o : Option Expr} {m : Option E}, optE rE t o = some m → PO X o (LO X.K X.mg fun env st => match m with
      | none => some (none, st)
      | some m => (dE m env st).bind fun (v, s1) => (prt v).bind fun o => some (o, s1)) := fun {o m} e => by
    cases o with
    | none => simp only [optE] at e; cases e; exact jo_none
    | some o =>
      simp only [optE] at e
      cases h1 : rE t o with
      | none => simp [h1] at e
      | some m' =>
        simp only [h1, Option.map_some, Option.some.injEq] at e
        subst e
        exact jo_some (hE t X o m' M h1).1
  refine je_mono (je_sl ja (po hl) (po hh)) fun env st r e => ?_
  cases l with
  | none =>
    cases h with
    | none =>
      simp only [slE, app1] at e
      simp only [Option.bind_some]
      cases h1 : dE x env st with
      | none => simp [h1] at e
      | some p => simp only [h1, Option.bind_some, fSl0] at e ⊢; exact e
    | some h =>
      simp only [slE, app2] at e
      simp only [Option.bind_some]
      cases h1 : dE x env st with
      | none => simp [h1] at e
      | some p =>
        cases h2 : dE h env p.2 with
        | none => simp [h1, h2] at e
        | some q =>
          simp only [h1, h2, Option.bind_some, fSlH] at e ⊢
          cases h3 : prt q.1 with
          | none => simp [h3] at e
          | some o => simp only [h3, Option.bind_some] at e ⊢; exact e
  | some l =>
    cases h with
    | none =>
      simp only [slE, app2] at e
      simp only [Option.bind_some]
      cases h1 : dE x env st with
      | none => simp [h1] at e
      | some p =>
        cases h2 : dE l env p.2 with
        | none => simp [h1, h2] at e
        | some q =>
          simp only [h1, h2, Option.bind_some, fSlL] at e ⊢
          cases h3 : prt q.1 with
          | none => simp [h3] at e
          | some o => simp only [h3, Option.bind_some] at e ⊢; exact e
    | some h =>
      simp only [slE, app3] at e
      cases h1 : dE x env st with
      | none => simp [h1] at e
      | some p =>
        cases h2 : dE l env p.2 with
        | none => simp [h1, h2] at e
        | some q =>
          cases h4 : dE h env q.2 with
          | none => simp [h1, h2, h4] at e
          | some w =>
            simp only [h1, h2, h4, Option.bind_some, fSl2] at e ⊢
            cases h3 : prt q.1 with
            | none => simp [h3] at e
            | some o =>
              simp only [h3, Option.bind_some] at e ⊢
              rw [h4]
              cases h5 : prt w.1 with
              | none => simp [h5] at e
              | some o' => simp only [h5, Option.bind_some] at e ⊢; exact e
theorem dc1_ok (TO : TabOk c k T) (hE : GE c k rE) (hL : GL c k rL) (M : Mtc c k t X) {kx vx tg iter : Expr} {ifs : List Expr} {sc : Scope} {l : E} {pos : Pos} (h : dc1 T rE rL t kx vx tg iter ifs sc = some l) :
    JE X (.DictComp kx vx [⟨tg, iter, ifs, 0⟩] sc pos) (dE l) := by
  unfold dc1 at h
  split at h
  · rename_i u
    simp only [Bool.and_eq_true] at u
    have ok := blkOk_by u.2
    cases h1 : tgE (blkT t sc) tg with
    | none => simp [h1] at h
    | some g =>
      simp only [h1, Option.bind_some] at h
      split at h
      · rename_i u1
        cases h2 : stepI T rE rL t tg iter with
        | none => simp [h2] at h
        | some it =>
          cases h3 : trTs rE (blkT t sc) ifs with
          | none => simp [h2, h3] at h
          | some ts =>
            cases h4 : rE (blkT t sc) kx with
            | none => simp [h2, h3, h4] at h
            | some ke =>
              cases h5 : rE (blkT t sc) vx with
              | none => simp [h2, h3, h4, h5] at h
              | some e =>
                simp only [h2, h3, h4, h5, Option.bind_some, Option.map_some, Option.some.injEq] at h
                subst h
                have ok' : BlkOk X.N X.env.scope sc (ownOf t sc) := by rw [M.N, M.sc]; exact ok
                have j : JD X (.DictComp kx vx [⟨tg, iter, ifs, 0⟩] sc pos) (coreD (dI it) g ((ownOf t sc).map (·.2)) (fun e s => dTs ts e s) (fun e s => dE ke e s) (fun e' s => dE e e' s)) :=
                  PE_imp (pe_dc M.O.calm M.nd (stepI_ok TO hE hL M h2) ok' (fun s H C cl fp => tg_ok (mt_blk M ok s H C cl fp) h1) (fun s H C cl fp => pts_of hE (mt_blk M ok s H C cl fp) h3)
                    (fun s H C cl fp => (hE _ _ _ _ (mt_blk M ok s H C cl fp) h4).1) (fun s H C cl fp => (hE _ _ _ _ (mt_blk M ok s H C cl fp) h5).1) (notSet_ok u.1 _)) fun _ _ _ h => ld_dc (fun i hi => by simpa using List.all_eq_true.mp u1 i hi) h
                refine je_mono (je_dic (jd_lock it j)) fun env st r e => ?_
                simp only [dE] at e
                simp only [lkdD, coreD, Option.bind_assoc, Option.bind_some]
                exact e
      · cases h
  · cases h
theorem nm_ok (TO : TabOk c k T) (M : Mtc c k t X) {x : Str} {p : Pos} {a : E}
    (h : (if x == "__debug__" || x == "__classdict__" then none else if visC t.sc x then (nmI t x).map E.loc else if glC t.sc x then (T.va.lookup x).map .con else none) = some a) : JE X (.Name x p) (dE a) := by
  split at h
  · cases h
  · rename_i u
    have u : (x == "__debug__" || x == "__classdict__") = false := by simpa using u
    rw [Bool.or_eq_false_iff] at u
    split at h
    · rename_i v
      cases h1 : nmI t x with
      | none => simp [h1] at h
      | some i =>
        simp only [h1, Option.map_some, Option.some.injEq] at h
        subst h
        exact je_mono (je_loc (pe_var (by rw [M.N]; exact nmI_ok h1) (by rw [M.sc]; exact vis_of v) u.1 u.2)) fun env st r e => by simp only [dE] at e; exact e
    · split at h
      · rename_i g
        cases h1 : T.va.lookup x with
        | none => simp [h1] at h
        | some v =>
          simp only [h1, Option.map_some, Option.some.injEq] at h
          subst h
          exact je_mono (TO.va x v h1 X M.O (gl_of M.sc g) p) fun env st r e => by simpa only [dE] using e
      · cases h
theorem lst_ok (TO : TabOk c k T) (hE : GE c k rE) (hL : GL c k rL) (M : Mtc c k t X) {e : Expr} {a : E} (h : (stepL T rE rL t e).map (.ofl gLst) = some a) : JE X e (dE a) := by
  cases h1 : stepL T rE rL t e with
  | none => simp [h1] at h
  | some l =>
    simp only [h1, Option.map_some, Option.some.injEq] at h
    subst h
    exact je_mono (je_lst (stepL_ok TO hE hL t X e l M h1)) fun env st r e => by simpa only [dE] using e
theorem jv_cmp {op : CmpOp} {r : R2} {F : Fn} {a b : Expr} {x y : E} {pos : Pos} (ho : OpR X (compareOp op) r) (hF : Sem2 X.K X.mg F r) (ha : JE X a (dE x)) (hb : JE X b (dE y)) (hm : behindInMarks op b = false) : Jv X (.Compare a [op] [b] pos) (.app F (.cons x (.cons y .nil))) :=
  ⟨je_mono (je_cmp ho hF ha hb hm) fun env st r e => by rw [app2] at e; exact e, jt_mono (jt_cmp ho hF ha hb hm) fun env st r e => by rw [app2] at e; exact e⟩
theorem call_ok (TO : TabOk c k T) (hE : GE c k rE) (hL : GL c k rL) (M : Mtc c k t X) {x : Str} {es : List Expr} {p q : Pos} {a : E} (g : glC t.sc x = true) (h : stepX T rE rL t x es = some a) : JE X (.Call (.Name x p) es [] q) (dE a) := by
  have hg := gl_of M.sc g
  unfold stepX at h
  split at h
  · rename_i r hr
    cases h
    split at hr
    · rename_i e
      split at hr
      · rename_i u
        cases h1 : T.cn.lookup x with
        | none => simp [h1] at hr
        | some G =>
          cases h2 : rL t e with
          | none => simp [h1, h2] at hr
          | some l =>
            simp only [h1, h2, Option.bind_some, Option.map_some, Option.some.injEq] at hr
            subst hr
            exact je_mono (TO.cn _ _ h1 X M.O hg e _ p q u (hL t X e l M h2)) fun env st r e => by simpa only [dE] using e
      · cases hr
    · cases hr
  · cases h1 : T.fn.lookup x with
    | none => simp [h1] at h
    | some F =>
      cases h2 : trEs rE t es with
      | none => simp [h1, h2] at h
      | some y =>
        simp only [h1, h2, Option.bind_some, Option.map_some, Option.some.injEq] at h
        subst h
        obtain ⟨j, u, l⟩ := ja_es hE M h2
        refine je_mono (TO.fn _ _ h1 X M.O hg es _ p q u j fun he env st p e => ?_) fun env st r e => by simpa only [dE] using e
        subst he
        simp only [trEs] at h2
        cases h2
        simp only [dEs] at e
        cases e
        rfl
theorem stepE_ok (TO : TabOk c k T) (hE : GE c k rE) (hL : GL c k rL) : GE c k (stepE T rE rL) := fun t X e a M h => by
  have hu := M.O.room.units
  unfold stepE at h
  split at h
  · rename_i cs j p
    cases h1 : conP cs with
    | none => simp [h1] at h
    | some v =>
      simp only [h1, Option.map_some, Option.some.injEq] at h
      subst h
      exact jv_plain (fun _ => rfl) (con_ok h1)
  · exact jv_plain (fun _ => rfl) (nm_ok TO M h)
  · rename_i l op r p
    cases h0 : opF op with
    | none => simp [h0] at h
    | some F =>
      cases h1 : rE t l with
      | none => simp [h0, h1] at h
      | some x =>
        cases h2 : rE t r with
        | none => simp [h0, h1, h2] at h
        | some y =>
          simp only [h0, h1, h2, Option.bind_some, Option.map_some, Option.some.injEq] at h
          subst h
          obtain ⟨R, ho, hF⟩ := bin_ok M h0
          exact jv_plain (fun _ => rfl) (je_mono (je_op ho hF (hE t X l x M h1).1 (hE t X r y M h2).1) fun env st r e => by rw [app2] at e; exact e)
  · rename_i op l p
    cases h0 : unF op with
    | none => simp [h0] at h
    | some F =>
      cases h1 : rE t l with
      | none => simp [h0, h1] at h
      | some x =>
        simp only [h0, h1, Option.bind_some, Option.map_some, Option.some.injEq] at h
        subst h
        cases op <;> simp only [unF] at h0 <;> cases h0
        · exact not_ok (hE t X l x M h1)
        · exact jv_plain (fun _ => rfl) (je_mono (je_un un_neg sem_neg (hE t X l x M h1).1) fun env st r e => by rw [app1] at e; exact e)
  · obtain ⟨j, w⟩ := and_ok hE M h
    exact ⟨j, ⟨fun pins s σ H Q I q => w.run _ pins s σ H Q I q⟩⟩
  · obtain ⟨j, w⟩ := or_ok hE M h
    exact ⟨j, ⟨fun pins s σ H Q I q => w.run _ pins s σ H Q I q⟩⟩
  · rename_i cc l r p
    cases h0 : rE t cc with
    | none => simp [h0] at h
    | some z =>
      cases h1 : rE t l with
      | none => simp [h0, h1] at h
      | some x =>
        cases h2 : rE t r with
        | none => simp [h0, h1, h2] at h
        | some y =>
          simp only [h0, h1, h2, Option.bind_some, Option.map_some, Option.some.injEq] at h
          subst h
          exact ⟨je_mono (je_ite (hE t X cc z M h0).2 (hE t X l x M h1).1 (hE t X r y M h2).1) fun env st r e => by simpa only [dE] using e,
            jt_mono (jt_ite (hE t X cc z M h0).2 (hE t X l x M h1).2 (hE t X r y M h2).2) fun env st r e => by simpa only [dE] using e⟩
  · rename_i l op r p
    split at h
    · rename_i u
      cases h0 : cmpF op with
      | none => simp [h0] at h
      | some F =>
        cases h1 : rE t l with
        | none => simp [h0, h1] at h
        | some x =>
          cases h2 : rE t r with
          | none => simp [h0, h1, h2] at h
          | some y =>
            simp only [h0, h1, h2, Option.bind_some, Option.map_some, Option.some.injEq] at h
            subst h
            obtain ⟨R, ho, hF⟩ := cmp_ok M h0
            exact jv_cmp ho hF (hE t X l x M h1).1 (hE t X r y M h2).1 (behind_no u)
    · cases h
  · rename_i l op op' r w p
    split at h
    · rename_i u
      cases h0 : cmpF op with
      | none => simp [h0] at h
      | some F =>
        cases h0' : cmpF op' with
        | none => simp [h0, h0'] at h
        | some G =>
          cases h1 : rE t l with
          | none => simp [h0, h0', h1] at h
          | some x =>
            cases h2 : rE t r with
            | none => simp [h0, h0', h1, h2] at h
            | some y =>
              cases h3 : rE t w with
              | none => simp [h0, h0', h1, h2, h3] at h
              | some z =>
                simp only [h0, h0', h1, h2, h3, Option.bind_some, Option.map_some, Option.some.injEq] at h
                subst h
                obtain ⟨R, ho, hF⟩ := cmp_ok M h0
                obtain ⟨R', ho', hG⟩ := cmp_ok M h0'
                exact ⟨je_mono (je_chn ho ho' hF hG (hE t X l x M h1).1 (hE t X r y M h2).1 (hE t X w z M h3).1 (behind_no u)) fun env st r e => by simpa only [dE] using e,
                  jt_mono (jt_chn ho ho' hF hG (hE t X l x M h1).1 (hE t X r y M h2).1 (hE t X w z M h3).1 (behind_no u)) fun env st r e => by simpa only [dE] using e⟩
    · cases h
  · rename_i es kk p
    split at h
    · rename_i u
      cases h1 : trEs rE t es with
      | none => simp [h1] at h
      | some y =>
        simp only [h1, Option.map_some, Option.some.injEq] at h
        subst h
        obtain ⟨j, _, l⟩ := ja_es hE M h1
        exact jv_plain (fun _ => rfl) (je_mono (je_tup j fun env st xs s1 e => by rw [dEs_len e, l]; exact u) fun env st r e => by simpa only [dE] using e)
    · cases h
  · exact jv_plain (fun _ => rfl) (lst_ok TO hE hL M h)
  · exact jv_plain (fun _ => rfl) (lst_ok TO hE hL M h)
  · exact jv_plain (fun _ => rfl) (dc1_ok TO hE hL M h)
  · cases h
    refine jv_plain (fun _ => rfl) (PE_imp pe_dnewK fun σ H Q ⟨ι, env, st, z, st', R, E, e, q⟩ => ?_)
    simp only [dE, dEs, Option.bind_some, fDic0, Option.some.injEq, Prod.mk.injEq] at e
    obtain ⟨rfl, rfl⟩ := e
    intro p hp
    have hn : p ∉ ι := R.not_mem hp
    refine q (ι ++ [p]) (.ref p) _ (Le.add hp) ((R.new hp).take hn ⟨[], upd_same, by simp only [RPs]⟩) ?_
    · simp only [RV]
      exact ⟨p, by rw [List.getElem?_append_right (by rw [R.len]; exact Nat.le_refl _), R.len, Nat.sub_self]; rfl, rfl⟩
  · rename_i a lo hi p2 p
    cases h0 : rE t a with
    | none => simp [h0] at h
    | some x =>
      cases h1 : optE rE t lo with
      | none => simp [h0, h1] at h
      | some l =>
        cases h2 : optE rE t hi with
        | none => simp [h0, h1, h2] at h
        | some r =>
          simp only [h0, h1, h2, Option.bind_some, Option.map_some, Option.some.injEq] at h
          subst h
          exact jv_plain (fun _ => rfl) (sl_ok hE M h0 h1 h2)
  · rename_i a b p _
    split at h
    · rename_i u
      split at h
      · rename_i l hl
        cases h2 : rE t b with
        | none => simp [h2] at h
        | some r =>
          simp only [h2, Option.map_some, Option.some.injEq] at h
          subst h
          exact jv_plain (fun _ => rfl) (je_mono (je_ixL (hL t X a l M hl) (hE t X b r M h2).1 u) fun env st r e => by simpa only [dE] using e)
      · cases h0 : rE t a with
        | none => simp [h0] at h
        | some x =>
          cases h2 : rE t b with
          | none => simp [h0, h2] at h
          | some r =>
            simp only [h0, h2, Option.bind_some, Option.map_some, Option.some.injEq] at h
            subst h
            exact jv_plain (fun _ => rfl) (je_mono (je_ix (by omega) (hE t X a x M h0).1 (hE t X b r M h2).1 u) fun env st r e => by rw [app2] at e; exact e)
    · cases h
  · rename_i x p es q
    split at h
    · rename_i g
      split at h
      · rename_i r hr
        cases h
        exact jv_plain (fun _ => rfl) (call_ok TO hE hL M g hr)
      · exact jv_plain (fun _ => rfl) (lst_ok TO hE hL M h)
    · cases h
  · rename_i o m apos es cpos
    split at h
    · rename_i u
      simp only [Bool.and_eq_true, decide_eq_true_eq] at u
      obtain ⟨⟨⟨u1, u2⟩, u3⟩, u4⟩ := u
      cases h0 : T.mt.lookup m with
      | none => simp [h0] at h
      | some pr =>
        cases h1 : rE t o with
        | none => simp [h0, h1] at h
        | some x =>
          cases h2 : trEs rE t es with
          | none => simp [h0, h1, h2] at h
          | some y =>
            simp only [h0, h1, h2, Option.bind_some, Option.map_some, Option.some.injEq] at h
            subst h
            obtain ⟨j, _, l⟩ := ja_es hE M h2
            refine jv_plain (fun _ => rfl) (je_mono (TO.mt m pr.1 pr.2 h0 X M.O o es _ _ apos cpos ⟨base_no u1, u2, u3, u4⟩ (hE t X o x M h1).1 j fun he env st p e => ?_) fun env st r e => by simpa only [dE] using e)
            subst he
            simp only [trEs] at h2
            cases h2
            simp only [dEs] at e
            cases e
            rfl
    · cases h
  · cases h
theorem ps_ok (hE : GE c k rE) (M : Mtc c k t X) {pos : Pos} : ∀ {ks : List (Option Expr)} {vs : List Expr} {es : Es}, trPs rE t ks vs = some es → DPs X pos ks vs es ∧ ks.all (·.isSome) = true ∧ ks.length = vs.length
  | [], [], es, h => by
    simp only [trPs] at h
    cases h
    exact ⟨dps_nil, rfl, rfl⟩
  | [], _ :: _, es, h => by simp only [trPs] at h; cases h
  | none :: _, _, es, h => by simp only [trPs] at h; cases h
  | some _ :: _, [], es, h => by simp only [trPs] at h; cases h
  | some x :: ks, y :: vs, es, h => by
    simp only [trPs] at h
    cases h1 : rE t x with
    | none => simp [h1] at h
    | some a =>
      cases h2 : rE t y with
      | none => simp [h1, h2] at h
      | some b =>
        cases h3 : trPs rE t ks vs with
        | none => simp [h1, h2, h3] at h
        | some r =>
          simp only [h1, h2, h3, Option.bind_some, Option.map_some, Option.some.injEq] at h
          subst h
          obtain ⟨d, p, q⟩ := ps_ok hE M (pos := pos) h3
          exact ⟨dps_cons (hE t X x a M h1).1 (hE t X y b M h2).1 d, by simpa using p, by simp [q]⟩
theorem stepN_ok (TO : TabOk c k T) (hE : GE c k rE) : GE c k (stepN T rE) := fun t X e a M h => by
  unfold stepN at h
  split at h
  · rename_i o f p
    split at h
    · rename_i u
      cases h0 : T.at_.lookup f with
      | none => simp [h0] at h
      | some F =>
        cases h1 : rE t o with
        | none => simp [h0, h1] at h
        | some x =>
          simp only [h0, h1, Option.bind_some, Option.map_some, Option.some.injEq] at h
          subst h
          exact jv_plain (fun _ => rfl) (je_mono (TO.at_ f F h0 X M.O o _ p (base_no u) (hE t X o x M h1).1) fun env st r e => by rw [app1] at e; exact e)
    · cases h
  · rename_i x p y p2 e q pos
    split at h
    · rename_i u
      simp only [Bool.and_eq_true, beq_iff_eq] at u
      obtain ⟨⟨⟨⟨⟨⟨rfl, rfl⟩, g1⟩, g2⟩, u1⟩, b1⟩, b2⟩ := u
      cases h1 : rE t e with
      | none => simp [h1] at h
      | some x =>
        simp only [h1, Option.map_some, Option.some.injEq] at h
        subst h
        have m1 := TO.bl _ b1
        have m2 := TO.bl _ b2
        rw [← M.O.mg] at m1 m2
        exact jv_plain (fun _ => rfl) (je_mono (je_lenSet M.O.calm (gl_of M.sc g1) m1 (gl_of M.sc g2) m2 (hE t X e x M h1).1 (starEach_cons u1)) fun env st r e => by rw [app1] at e; exact e)
    · cases h
  · rename_i kk ks vs pos
    split at h
    · rename_i u
      cases h1 : trPs rE t (kk :: ks) vs with
      | none => simp [h1] at h
      | some es =>
        simp only [h1, Option.map_some, Option.some.injEq] at h
        subst h
        obtain ⟨d, p, q⟩ := ps_ok hE M (pos := pos) h1
        exact jv_plain (fun _ => rfl) (je_disp d p q (by simp) (of_decide_eq_true u))
    · cases h
  · cases h
theorem stepF_ok (TO : TabOk c k T) (hE : GE c k rE) (hL : GL c k rL) : GE c k (stepF T rE rL) := fun t X e a M h => by
  unfold stepF at h
  split at h
  · rename_i b hb
    cases h
    exact stepE_ok TO hE hL t X e a M hb
  · exact stepN_ok TO hE t X e a M h
theorem trB_ok (TO : TabOk c k T) : ∀ n : Nat, GE c k (trB T n).1 ∧ GL c k (trB T n).2
  | 0 => by
    refine ⟨fun t X e a M h => ?_, fun t X e a M h => ?_⟩
    · simp only [trB] at h; cases h
    · simp only [trB] at h; cases h
  | n + 1 => by
    obtain ⟨h1, h2⟩ := trB_ok TO n
    exact ⟨stepF_ok TO h1 h2, stepL_ok TO h1 h2⟩
end
end Den

/-! DenS: the tree of a statement, and that it is right. -/
namespace Den
open PySem PySem.Spec PyProof.Rows L2
section
variable {X : Cx}
/-- name = {..: ..} on one line, the name a local (after HandS/Comp.lean's rule for lists) -/
theorem ps_setDc {i : Nat} {y : Str} {py : Pos} {kx vx tg iter : Expr} {ifs : List Expr} {scope : Scope} {own : List (Str × Nat)} {pos spos : Pos} {wi : TI} {g : TG} {tt : TT} {tk tv : TE} (hc : X.calm = true) (hN : X.N.Nodup) (hy : X.N[i]? = some y) (hyl : X.env.scope.names.lookup y = some .local)
    (hsw : swapsWith (.DictComp kx vx [⟨tg, iter, ifs, 0⟩] scope pos) (some (.Name y py)) spos.line X.env = pure true) (hi : PI X tg iter wi) (ok : BlkOk X.N X.env.scope scope own)
    (hg : ∀ (s : Shared) (H : Hp) (C : Addr) (cl : List (Str × Addr)) (fp : List Addr), PG (X.blk s H scope (compEnvC scope cl C X.env) fp) tg g) (ht : ∀ (s : Shared) (H : Hp) (C : Addr) (cl : List (Str × Addr)) (fp : List Addr), PTs (X.blk s H scope (compEnvC scope cl C X.env) fp) ifs tt)
    (hk : ∀ (s : Shared) (H : Hp) (C : Addr) (cl : List (Str × Addr)) (fp : List Addr), PE (X.blk s H scope (compEnvC scope cl C X.env) fp) kx tk)
    (he : ∀ (s : Shared) (H : Hp) (C : Addr) (cl : List (Str × Addr)) (fp : List Addr), PE (X.blk s H scope (compEnvC scope cl C X.env) fp) vx tv) (hs : ∀ x, foldedSetIterable iter X.env x = pure x) :
    PS X (.Assign [.Name y py] (.DictComp kx vx [⟨tg, iter, ifs, 0⟩] scope pos) spos) (tAsg (tDc wi g tt tk tv (own.map (·.2))) (gName i)) := by
  refine ⟨fun pins s σ H D I h => ?_⟩
  rw [exec_Assign_Name_used _ _ _ _ hsw]
  refine wpAny_bind (wpAny_standAt (wpAny_bind ?_))
  show wpAny _ X.A (do let _ ← comprehension (.DictComp kx vx [⟨tg, iter, ifs, 0⟩] scope pos) scope X.env (firstIterPos [⟨tg, iter, ifs, 0⟩] pos) newDict false (eval iter X.env) (some (assign (.Name y py) X.env))) _ _ s
  have h : tDc wi g tt tk tv (own.map (·.2)) σ H (fun x H1 => gName i x σ H1 D.nx) := h
  refine wpAny_bind (thn (dc_core (Qf := fun _ s' => SP X pins D .next s') hc hN I hi ok hg ht hk he hs h fun L C s' m H' I' q hn f => ?_) fun _ s' hq => wpAny_pure (wpAny_pure hq))
  show wpAny _ _ (assign (.Name y py) X.env (.ref L)) _ _ _
  refine wpAny_assign_Name (store_ok2 (v := V.ref L) I' hN hy (.inl hyl) rfl (fun s2 I2 ⟨a, sb, ha⟩ => ?_) (.inr hyl))
  obtain ⟨f0, f1, f2, f3, f4, f5⟩ := f
  have haC : C ≠ a := by
    rcases ha with z | z
    · rw [z]; exact f1
    · exact fun e => f4 y a z e.symm
  refine ⟨m, hn.sameBut sb haC, fun h3 sb3 => ?_⟩
  exact ⟨_, H', I2.turned (t' := s2.toks) (fun b o hb e => (sb3.2 b hb).trans e) f0 f1 f3 f4 f5, q⟩
end
/-! ### the translation -/
def swB (sc : Scope) (e : Expr) (y : Str) (p : Pos) : Bool := match e with
  | .ListComp _ _ s q => decide (sc.names.lookup y = some .local) && p.line == q.line && !(s.names.any fun (n, k) => n == y && (k == .local || k == .cell))
  | .DictComp _ _ _ s q => decide (sc.names.lookup y = some .local) && p.line == q.line && !(s.names.any fun (n, k) => n == y && (k == .local || k == .cell))
  | .SetComp .. => true
  | _ => false
theorem sw_false {e : Expr} {y : Str} {p : Pos} {l : Nat} {env : PySem.Env} (hk : env.scope.kind = .function) (h : swB env.scope e y p = false) : swapsWith e (some (.Name y p)) l env = pure false := by
  have hb := block_fun hk
  cases e <;> first | rfl | skip
  case ListComp a b s q =>
    unfold swapsWith
    simp only [hb, Expr.pos]
    simp only [swB, Bool.and_eq_false_iff, decide_eq_false_iff_not] at h
    have : ((NameKind.local : NameKind) == NameKind.local) = true := rfl
    show (pure _ : Sem Bool) = _
    congr 1
    rcases h with (h | h) | h
    · have : (env.kindOf y == some NameKind.local) = false := by
        rw [beq_eq_false_iff_ne]; exact h
      rw [this]; simp
    · rw [h]; simp
    · rw [h]; simp
  case DictComp a b d s q =>
    unfold swapsWith
    simp only [hb, Expr.pos]
    simp only [swB, Bool.and_eq_false_iff, decide_eq_false_iff_not] at h
    show (pure _ : Sem Bool) = _
    congr 1
    rcases h with (h | h) | h
    · have : (env.kindOf y == some NameKind.local) = false := by
        rw [beq_eq_false_iff_ne]; exact h
      rw [this]; simp
    · rw [h]; simp
    · rw [h]; simp
  case SetComp => cases h
theorem sw_trueD {kx vx : Expr} {gs : List Comprehension} {scope : Scope} {pos py : Pos} {y : Str} {l : Nat} {env : PySem.Env} (hk : env.scope.kind = .function) (hy : env.scope.names.lookup y = some .local) (hl : (py.line == pos.line) = true)
    (ha : (scope.names.any fun (n, k) => n == y && (k == .local || k == .cell)) = false) : swapsWith (.DictComp kx vx gs scope pos) (some (.Name y py)) l env = pure true := by
  have ky : env.kindOf y = some .local := hy
  have hb : env.blockKind = .function := block_fun hk
  unfold swapsWith
  simp only [hb, ky, ha, Expr.pos, hl]
  rfl
def fAddI : Fn
  | [.int i, .int j], st => some (.int (i + j), st)
  | _, _ => none
def fSubI : Fn
  | [.int i, .int j], st => some (.int (i - j), st)
  | _, _ => none
def t1E (rE : RE') (t : Ct) : Expr → Option T1
  | .Name y _ => if asgOk t y then (nmI t y).map .nm else none
  | .Subscript o i _ => if notSl i then (rE t o).bind fun o => (rE t i).map fun i => .sub o i else none
  | _ => none
def t1s (rE : RE') (t : Ct) : List Expr → Option (List T1)
  | [] => some []
  | e :: es => if unst e then (t1E rE t e).bind fun a => (t1s rE t es).map (a :: ·) else none
abbrev RS' := Ct → List Stmt → S
/-- what a comprehension on the target's line gives -/
def swE (T : Tab) (rE : RE') (rL : RL') (t : Ct) : Expr → Option E
  | .ListComp elt [⟨tg, iter, ifs, 0⟩] sc _ => (lc1 T rE rL t elt tg iter ifs sc).map (.ofl gLst)
  | .ListComp elt [⟨tg, iter, ifs, 0⟩, ⟨tg1, iter1, ifs1, 0⟩] sc _ => (lc2 T rE rL t elt tg iter ifs tg1 iter1 ifs1 sc).map (.ofl gLst)
  | .DictComp k v [⟨tg, iter, ifs, 0⟩] sc _ => dc1 T rE rL t k v tg iter ifs sc
  | _ => none
def dd {α : Type} (o : Option α) (f : α → S) : S := match o with
  | some a => f a
  | none => .dead
def swN : Expr → Str → Bool
  | .ListComp _ _ s _, y => !(s.names.any fun (n, k) => n == y && (k == .local || k == .cell))
  | .DictComp _ _ _ s _, y => !(s.names.any fun (n, k) => n == y && (k == .local || k == .cell))
  | _, _ => false
def stepS (T : Tab) (rE : RE') (rL : RL') (rS : RS') (t : Ct) (s : Stmt) : S := match s with
  | .Expr e _ => if notComp e then dd (rE t e) .ex else .dead
  | .Return (some e) _ => dd (rE t e) .ret
  | .Return none _ => .ret (.con .non)
  | .Assign [.Name y p] e q => if asgOk t y then dd (nmI t y) fun i =>
        if swB t.sc e y p then (if decide (t.sc.names.lookup y = some .local) && (p.line == e.pos.line) && swN e y then dd (swE T rE rL t e) (.set i) else .dead)
        else dd (rE t e) (.set i)
      else .dead
  | .Assign [.Subscript o i p] e _ => dd (t1E rE t (.Subscript o i p)) fun a => dd (rE t e) (.asg a)
  | .Assign [.Tuple [.Name x p1, .Name y p2] k p] (.Tuple [a, b] k2 p3) _ => match swapN t.sc [.Name x p1, .Name y p2] [a, b] with
      | some none => dd (t1s rE t [.Name x p1, .Name y p2]) fun ts => dd (rE t (.Tuple [a, b] k2 p3)) (.asgT ts)
      | some (some [x', y']) => if decide (x' = x) && decide (y' = y) && decide (t.sc.names.lookup x = some .local) && decide (t.sc.names.lookup y = some .local) then
          dd (nmI t x) fun i => dd (nmI t y) fun j => if decide (i ≠ j) then dd (trEs rE t [a, b]) fun es => .asgT [.nm i, .nm j] (.app fTup es) else .dead
        else .dead
      | _ => .dead
  | .Assign [.Tuple [.Name x p1, .Name y p2, .Name z p4] k p] (.Tuple [a, b, d] k2 p3) _ => match swapN t.sc [.Name x p1, .Name y p2, .Name z p4] [a, b, d] with
      | some none => dd (t1s rE t [.Name x p1, .Name y p2, .Name z p4]) fun ts => dd (rE t (.Tuple [a, b, d] k2 p3)) (.asgT ts)
      | some (some [x', y', z']) => if decide (x' = x) && decide (y' = y) && decide (z' = z) && decide (t.sc.names.lookup x = some .local) && decide (t.sc.names.lookup y = some .local) && decide (t.sc.names.lookup z = some .local) then
          dd (nmI t x) fun i => dd (nmI t y) fun j => dd (nmI t z) fun l => if decide (i ≠ j) && decide (i ≠ l) && decide (j ≠ l) then dd (trEs rE t [a, b, d]) fun es => .asgT [.nm i, .nm j, .nm l] (.app fTup es) else .dead
        else .dead
      | _ => .dead
  | .Assign [.Tuple ts k p] (.Tuple vs k2 p3) _ => match swapN t.sc ts vs with
      | some none => dd (t1s rE t ts) fun a => dd (rE t (.Tuple vs k2 p3)) (.asgT a)
      | _ => .dead
  | .Assign [.Tuple ts k p] e _ => if isTup e then .dead else dd (t1s rE t ts) fun a => dd (rE t e) (.asgT a)
  | .AugAssign (.Name y _) .Add e _ => if asgOk t y then dd (nmI t y) fun i => dd (rE t e) fun a => .set i (.app fAddI (.cons (.loc i) (.cons a .nil))) else .dead
  | .AugAssign (.Name y _) .Sub e _ => if asgOk t y then dd (nmI t y) fun i => dd (rE t e) fun a => .set i (.app fSubI (.cons (.loc i) (.cons a .nil))) else .dead
  | .If c a b _ => dd (rE t c) fun c => .ite c (rS t a) (rS t b)
  | .While c b [] _ => dd (rE t c) fun c => .whl c (rS t b)
  | .For tg iter b [] _ => if notSet iter then dd (tgE t tg) fun g => dd (stepI T rE rL t tg iter) fun i => .for i g (rS t b) else .dead
  | .Pass _ => .skip
  | .Break _ => .brk
  | .Continue _ => .cont
  | _ => .dead
def stepT (T : Tab) (rE : RE') (rL : RL') (rS : RS') (t : Ct) (s : Stmt) : S := match s with
  | .Assign [.Attribute o f p] e _ => dd (T.sa.lookup f) fun F => dd (rE t o) fun a => dd (rE t e) fun b => .ex (.app F (.cons b (.cons a .nil)))
  | s => stepS T rE rL rS t s
def trS (T : Tab) : Nat → Ct → List Stmt → S
  | 0, _, _ => .dead
  | _ + 1, _, [] => .skip
  | n + 1, t, [s] => stepT T (trB T n).1 (trB T n).2 (trS T n) t s
  | n + 1, t, s :: r => .seq (stepT T (trB T n).1 (trB T n).2 (trS T n) t s) (trS T n t r)
end Den

/-! DenU: the trees of statements are right. -/
namespace Den
open PySem PySem.Spec PyProof.Rows L2
structure Mts (c : C0) (k : Nat) (t : Ct) (X : Cx) : Prop extends Mtc c k t X where
  ps : PassesOwn (model X.prog X.w) X.A X.env X.xe
section
variable {c : C0} {k : Nat} {T : Tab} {rE : RE'} {rL : RL'} {rS : RS'} {t : Ct} {X : Cx} {s : Stmt}
theorem js_dd {α : Type} {o : Option α} {f : α → S} (h : ∀ a, o = some a → JS X s (dS (f a))) : JS X s (dS (dd o f)) := by
  cases o with
  | none => exact js_mono js_dead fun env st r e => by simp only [dd, dS] at e; cases e
  | some a => exact h a rfl
theorem js_d : JS X s (dS .dead) := js_mono js_dead fun env st r e => by simp only [dS] at e; cases e
theorem js_if {b : Bool} {x y : S} (h : b = true → JS X s (dS x)) (h' : b = false → JS X s (dS y)) : JS X s (dS (if b then x else y)) := by
  cases b
  · exact h' rfl
  · exact h rfl
/-! ### comprehensions on the target's line -/
theorem set_lc1 (TO : TabOk c k T) (hE : GE c k rE) (hL : GL c k rL) (M : Mtc c k t X) {elt tg iter : Expr} {ifs : List Expr} {sc : Scope} {l : Lx} {pos py : Pos} {q : Pos} {y : Str} {i : Nat} (h : lc1 T rE rL t elt tg iter ifs sc = some l)
    (hi : X.N[i]? = some y) (hy : X.env.scope.names.lookup y = some .local) (hw : swapsWith (.ListComp elt [⟨tg, iter, ifs, 0⟩] sc pos) (some (.Name y py)) q.line X.env = pure true) :
    JS X (.Assign [.Name y py] (.ListComp elt [⟨tg, iter, ifs, 0⟩] sc pos) q) (dS (.set i (.ofl gLst l))) := by
  unfold lc1 at h
  split at h
  · rename_i u
    simp only [Bool.and_eq_true] at u
    have ok := blkOk_by u.2
    cases h1 : tgE (blkT t sc) tg with
    | none => simp [h1] at h
    | some g =>
      simp only [h1, Option.bind_some] at h
      split at h
      · rename_i u1
        cases h2 : stepI T rE rL t tg iter with
        | none => simp [h2] at h
        | some it =>
          cases h3 : trTs rE (blkT t sc) ifs with
          | none => simp [h2, h3] at h
          | some ts =>
            cases h4 : rE (blkT t sc) elt with
            | none => simp [h2, h3, h4] at h
            | some e =>
              simp only [h2, h3, h4, Option.bind_some, Option.map_some, Option.some.injEq] at h
              subst h
              have ok' : BlkOk X.N X.env.scope sc (ownOf t sc) := by rw [M.N, M.sc]; exact ok
              have hgo : ∀ i ∈ tgIs g, i ∈ (ownOf t sc).map (·.2) := fun i hi => by simpa using List.all_eq_true.mp u1 i hi
              refine js_mono (js_setL (t := it) (ps_setLc M.O.calm M.nd hi hy hw (stepI_ok TO hE hL M h2) ok'
                (fun s H C cl fp => tg_ok (mt_blk M ok s H C cl fp) h1) (fun s H C cl fp => pts_of hE (mt_blk M ok s H C cl fp) h3) (fun s H C cl fp => (hE _ _ _ _ (mt_blk M ok s H C cl fp) h4).1) (notSet_ok u.1 _)) fun σ H Q h => ll_lc hgo h) fun env st r e => ?_
              simp only [dS, dE, dL, Option.bind_assoc] at e
              simp only [fSet, fOfl, lkdL, coreL, Option.bind_assoc]
              exact e
      · cases h
  · cases h
theorem set_lc2 (TO : TabOk c k T) (hE : GE c k rE) (hL : GL c k rL) (M : Mtc c k t X) {elt tg iter tg1 iter1 : Expr} {ifs ifs1 : List Expr} {sc : Scope} {l : Lx} {pos py : Pos} {q : Pos} {y : Str} {i : Nat} (h : lc2 T rE rL t elt tg iter ifs tg1 iter1 ifs1 sc = some l)
    (hi : X.N[i]? = some y) (hy : X.env.scope.names.lookup y = some .local) (hw : swapsWith (.ListComp elt [⟨tg, iter, ifs, 0⟩, ⟨tg1, iter1, ifs1, 0⟩] sc pos) (some (.Name y py)) q.line X.env = pure true) :
    JS X (.Assign [.Name y py] (.ListComp elt [⟨tg, iter, ifs, 0⟩, ⟨tg1, iter1, ifs1, 0⟩] sc pos) q) (dS (.set i (.ofl gLst l))) := by
  unfold lc2 at h
  split at h
  · rename_i u
    simp only [Bool.and_eq_true] at u
    have ok := blkOk_by u.2
    cases h1 : tgE (blkT t sc) tg with
    | none => simp [h1] at h
    | some g =>
      cases h1' : tgE (blkT t sc) tg1 with
      | none => simp [h1, h1'] at h
      | some g1 =>
        simp only [h1, h1', Option.bind_some] at h
        split at h
        · rename_i u1
          simp only [Bool.and_eq_true] at u1
          cases h2 : stepI T rE rL t tg iter with
          | none => simp [h2] at h
          | some it =>
            cases h3 : trTs rE (blkT t sc) ifs with
            | none => simp [h2, h3] at h
            | some ts =>
              cases h2' : stepI T rE rL (blkT t sc) tg1 iter1 with
              | none => simp [h2, h3, h2'] at h
              | some it1 =>
                cases h3' : trTs rE (blkT t sc) ifs1 with
                | none => simp [h2, h3, h2', h3'] at h
                | some ts1 =>
                  cases h4 : rE (blkT t sc) elt with
                  | none => simp [h2, h3, h2', h3', h4] at h
                  | some e =>
                    simp only [h2, h3, h2', h3', h4, Option.bind_some, Option.map_some, Option.some.injEq] at h
                    subst h
                    have ok' : BlkOk X.N X.env.scope sc (ownOf t sc) := by rw [M.N, M.sc]; exact ok
                    have hgo : ∀ i ∈ tgIs g, i ∈ (ownOf t sc).map (·.2) := fun i hi => by simpa using List.all_eq_true.mp u1.1 i hi
                    have hgo1 : ∀ i ∈ tgIs g1, i ∈ (ownOf t sc).map (·.2) := fun i hi => by simpa using List.all_eq_true.mp u1.2 i hi
                    refine js_mono (js_setL (t := it) (ps_setLc2 M.O.calm M.nd hi hy hw (stepI_ok TO hE hL M h2) ok' hgo1 (fun s H C cl fp => tg_ok (mt_blk M ok s H C cl fp) h1) (fun s H C cl fp => pts_of hE (mt_blk M ok s H C cl fp) h3)
                        (fun s H C cl fp => stepI_ok TO hE hL (mt_blk M ok s H C cl fp) h2') (fun s H C cl fp => tg_ok (mt_blk M ok s H C cl fp) h1') (fun s H C cl fp => pts_of hE (mt_blk M ok s H C cl fp) h3')
                        (fun s H C cl fp => (hE _ _ _ _ (mt_blk M ok s H C cl fp) h4).1) (notSet_ok u.1.1 _) (fun env x => notSet_ok u.1.2 env x)) fun _ _ _ h => ll_lc2 hgo (fun i hi => hi) h) fun env st r e => ?_
                    simp only [dS, dE, dL, Option.bind_assoc] at e
                    simp only [fSet, fOfl, lkdL, coreL2, innL, Option.bind_assoc]
                    exact e
        · cases h
  · cases h
theorem set_dc1 (TO : TabOk c k T) (hE : GE c k rE) (hL : GL c k rL) (M : Mtc c k t X) {kx vx tg iter : Expr} {ifs : List Expr} {sc : Scope} {l : E} {pos py : Pos} {q : Pos} {y : Str} {i : Nat} (h : dc1 T rE rL t kx vx tg iter ifs sc = some l)
    (hi : X.N[i]? = some y) (hy : X.env.scope.names.lookup y = some .local) (hw : swapsWith (.DictComp kx vx [⟨tg, iter, ifs, 0⟩] sc pos) (some (.Name y py)) q.line X.env = pure true) :
    JS X (.Assign [.Name y py] (.DictComp kx vx [⟨tg, iter, ifs, 0⟩] sc pos) q) (dS (.set i l)) := by
  unfold dc1 at h
  split at h
  · rename_i u
    simp only [Bool.and_eq_true] at u
    have ok := blkOk_by u.2
    cases h1 : tgE (blkT t sc) tg with
    | none => simp [h1] at h
    | some g =>
      simp only [h1, Option.bind_some] at h
      split at h
      · rename_i u1
        cases h2 : stepI T rE rL t tg iter with
        | none => simp [h2] at h
        | some it =>
          cases h3 : trTs rE (blkT t sc) ifs with
          | none => simp [h2, h3] at h
          | some ts =>
            cases h4 : rE (blkT t sc) kx with
            | none => simp [h2, h3, h4] at h
            | some ke =>
              cases h5 : rE (blkT t sc) vx with
              | none => simp [h2, h3, h4, h5] at h
              | some e =>
                simp only [h2, h3, h4, h5, Option.bind_some, Option.map_some, Option.some.injEq] at h
                subst h
                have ok' : BlkOk X.N X.env.scope sc (ownOf t sc) := by rw [M.N, M.sc]; exact ok
                refine js_mono (js_setD (t := it) (ps_setDc M.O.calm M.nd hi hy hw (stepI_ok TO hE hL M h2) ok' (fun s H C cl fp => tg_ok (mt_blk M ok s H C cl fp) h1) (fun s H C cl fp => pts_of hE (mt_blk M ok s H C cl fp) h3)
                    (fun s H C cl fp => (hE _ _ _ _ (mt_blk M ok s H C cl fp) h4).1) (fun s H C cl fp => (hE _ _ _ _ (mt_blk M ok s H C cl fp) h5).1) (notSet_ok u.1 _)) fun _ _ _ h => ld_dc (fun i hi => by simpa using List.all_eq_true.mp u1 i hi) h) fun env st r e => ?_
                simp only [dS, dE, Option.bind_assoc, Option.bind_some] at e
                simp only [fSet, fOfd, lkdD, coreD, Option.bind_assoc, Option.bind_some]
                exact e
      · cases h
  · cases h
theorem set_sw (TO : TabOk c k T) (hE : GE c k rE) (hL : GL c k rL) (M : Mtc c k t X) {e : Expr} {a : E} {py q : Pos} {y : Str} {i : Nat} (h : swE T rE rL t e = some a) (hi : X.N[i]? = some y) (hy : X.env.scope.names.lookup y = some .local) (hl : (py.line == e.pos.line) = true) (hn : swN e y = true) :
    JS X (.Assign [.Name y py] e q) (dS (.set i a)) := by
  unfold swE at h
  split at h
  · rename_i elt tg iter ifs sc p
    cases h1 : lc1 T rE rL t elt tg iter ifs sc with
    | none => simp [h1] at h
    | some l =>
      simp only [h1, Option.map_some, Option.some.injEq] at h
      subst h
      exact set_lc1 TO hE hL M h1 hi hy (sw_true M.kind hy hl (by simpa [swN] using hn))
  · rename_i elt tg iter ifs tg1 iter1 ifs1 sc p
    cases h1 : lc2 T rE rL t elt tg iter ifs tg1 iter1 ifs1 sc with
    | none => simp [h1] at h
    | some l =>
      simp only [h1, Option.map_some, Option.some.injEq] at h
      subst h
      exact set_lc2 TO hE hL M h1 hi hy (sw_true M.kind hy hl (by simpa [swN] using hn))
  · exact set_dc1 TO hE hL M h hi hy (sw_trueD M.kind hy hl (by simpa [swN] using hn))
  · cases h
/-! ### targets -/
theorem t1_ok (hE : GE c k rE) (M : Mtc c k t X) {e : Expr} {a : T1} (h : t1E rE t e = some a) : PG X e (LG1 X.K X.mg (dT1 a)) := by
  have hu := M.O.room.units
  cases e <;> simp only [t1E] at h <;> try cases h
  case Subscript o i p =>
    split at h
    · rename_i u
      cases h0 : rE t o with
      | none => simp [h0] at h
      | some x =>
        cases h1 : rE t i with
        | none => simp [h0, h1] at h
        | some y =>
          simp only [h0, h1, Option.bind_some, Option.map_some, Option.some.injEq] at h
          subst h
          refine PG_imp (jg_sub (by omega) (hE t X o x M h0).1 (hE t X i y M h1).1 u) fun v σ H Q ⟨ι, env, st, x, env', st', R, E, r, e, q⟩ => ⟨ι, env, st, x, env', st', R, E, r, ?_, q⟩
          simpa only [dT1] using e
    · cases h
  case Name y p =>
    split at h
    · rename_i u
      cases h0 : nmI t y with
      | none => simp [h0] at h
      | some i =>
        simp only [h0, Option.map_some, Option.some.injEq] at h
        subst h
        refine PG_imp (jg_nm (pg_nm M u h0)) fun v σ H Q ⟨ι, env, st, x, env', st', R, E, r, e, q⟩ => ⟨ι, env, st, x, env', st', R, E, r, ?_, q⟩
        simpa only [dT1] using e
    · cases h
theorem t1s_len : ∀ {ts : List T1} {xs : List PV} {env : Env} {st : Store} {p}, dT1s ts xs env st = some p → xs.length = ts.length
  | [], [], _, _, _, _ => rfl
  | [], _ :: _, _, _, _, h => by simp only [dT1s] at h; cases h
  | _ :: _, [], _, _, _, h => by simp only [dT1s] at h; cases h
  | t :: ts, x :: xs, env, st, p, h => by
    simp only [dT1s] at h
    cases h1 : dT1 t x env st with
    | none => simp [h1] at h
    | some q =>
      simp only [h1, Option.bind_some] at h
      simp [t1s_len h]
theorem t1s_ok (hE : GE c k rE) (M : Mtc c k t X) : ∀ {es : List Expr} {a : List T1}, t1s rE t es = some a → PGs X es (LGs X.K X.mg (dT1s a)) ∧ unsts es = true ∧ a.length = es.length
  | [], a, h => by
    simp only [t1s] at h
    cases h
    refine ⟨PGs_imp jgs_nil fun v σ H Q ⟨ι, env, st, x, env', st', R, E, r, e, q⟩ => ⟨ι, env, st, x, env', st', R, E, r, ?_, q⟩, rfl, rfl⟩
    cases x with
    | nil => simpa only [dT1s] using e
    | cons => simp only [dT1s] at e; cases e
  | e :: es, a, h => by
    simp only [t1s] at h
    split at h
    · rename_i u
      cases h0 : t1E rE t e with
      | none => simp [h0] at h
      | some x =>
        cases h1 : t1s rE t es with
        | none => simp [h0, h1] at h
        | some y =>
          simp only [h0, h1, Option.bind_some, Option.map_some, Option.some.injEq] at h
          subst h
          obtain ⟨j, u2, l⟩ := t1s_ok hE M h1
          refine ⟨PGs_imp (jgs_cons u (t1_ok hE M h0) j) fun v σ H Q ⟨ι, env, st, x, env', st', R, E, r, e, q⟩ => ⟨ι, env, st, x, env', st', R, E, r, ?_, q⟩, by simp only [unsts, u, u2]; rfl, by simp [l]⟩
          cases x with
          | nil => simp only [dT1s] at e; cases e
          | cons => simp only [dT1s] at e; exact e
    · cases h
theorem js_tup (hE : GE c k rE) (M : Mtc c k t X) {ts : List Expr} {a : List T1} {e : Expr} {x : E} {kk : Nat} {p q : Pos} (h : t1s rE t ts = some a) (he : JE X e (dE x)) (hw : swappedStores [.Tuple ts kk p] e X.env = pure none) :
    JS X (.Assign [.Tuple ts kk p] e q) (dS (.asgT a x)) := by
  obtain ⟨j, u, l⟩ := t1s_ok hE M h
  refine js_mono (js_asg he (jg_tup M.O.calm u j fun xs env st p e => by rw [t1s_len e, l]) rfl (by cases e <;> rfl) hw) fun env st r e => ?_
  simp only [dS] at e
  cases h1 : dE x env st with
  | none => simp [h1] at e
  | some pr =>
    obtain ⟨v, s1⟩ := pr
    simp only [h1, Option.bind_some] at e ⊢
    cases v <;> first | exact e | cases e
end
end Den

/-! DenV: the trees of statements are right: all forms. -/
namespace Den
open PySem PySem.Spec PyProof.Rows L2
theorem RVs.three {K : PySem.W.Frag} {mg : Str → Option Value} {ι : List Addr} {H : Hp} {x y z : PV} {vs : List V} (h : RVs K mg ι H [x, y, z] vs) : ∃ u v w, vs = [u, v, w] ∧ RV K mg ι H x u ∧ RV K mg ι H y v ∧ RV K mg ι H z w := by
  simp only [RVs] at h
  obtain ⟨v, r, rfl, q, w, r', rfl, q', w2, r2, rfl, q2, rfl⟩ := h
  exact ⟨v, w, w2, rfl, q, q', q2⟩
section
variable {X : Cx}
theorem js_par3 {a b d : Expr} {n m l : Nat} {x y z : Str} {f2 : Env → Store → Option (List PV × Store)} {px py pz pt pos : Pos} {kt k2 pt2} (hc : X.calm = true) (hN : X.N.Nodup) (hi : X.N[n]? = some x) (hj : X.N[m]? = some y) (hl : X.N[l]? = some z) (hij : n ≠ m) (hil : n ≠ l) (hjl : m ≠ l)
    (hx : X.env.scope.names.lookup x = some .local) (hy : X.env.scope.names.lookup y = some .local) (hz : X.env.scope.names.lookup z = some .local) (ha : JA X [a, b, d] f2)
    (hw : swappedStores [.Tuple [.Name x px, .Name y py, .Name z pz] kt pt] (.Tuple [a, b, d] k2 pt2) X.env = pure (some [x, y, z])) :
    JS X (.Assign [.Tuple [.Name x px, .Name y py, .Name z pz] kt pt] (.Tuple [a, b, d] k2 pt2) pos) (fun env st => (f2 env st).bind fun (xs, s1) => match xs with | [u, v, w] => some (.nx, ((env.set n (some u)).set m (some v)).set l (some w), s1) | _ => none) :=
  PS_imp (ps_par3 hc hN hi hj hl hij hil hjl hx hy hz ha hw rfl) fun D σ H ⟨ι, env, st, r, env', st', R, E, e, q⟩ => by
  cases h1 : f2 env st with
  | none => simp [h1] at e
  | some p =>
    obtain ⟨xs, s1⟩ := p
    simp only [h1, Option.bind_some] at e
    split at e
    · rename_i u v w
      simp only [Option.some.injEq, Prod.mk.injEq] at e
      obtain ⟨rfl, rfl, rfl⟩ := e
      refine ⟨ι, env, st, _, s1, R, E, h1, fun ι1 us H1 l1 R1 r1 => ?_⟩
      obtain ⟨u1, u2, u3, rfl, ru1, ru2, ru3⟩ := r1.three
      exact ⟨u1, u2, u3, rfl, q ι1 _ H1 l1 R1 ((((E.le l1.ex).set ru1).set ru2).set ru3)⟩
    · cases e
theorem js_aug {n : Nat} {y : Str} {e : Expr} {op : Operator} {F : Fn} {h : Int → Int → Int} {f : Env → Store → Option (PV × Store)} {pos' pos : Pos} (hN : X.N.Nodup) (hi : X.N[n]? = some y) (hx : Loc X.env.scope y) (hf : X.fn y = true ∨ X.env.scope.names.lookup y = some .local) (he : JE X e f) (ho : PIp X op (ipI h))
    (hF : ∀ xs st r, F xs st = some r → ∃ i j, xs = [.int i, .int j] ∧ r = (.int (h i j), st)) :
    JS X (.AugAssign (.Name y pos') op e pos) (fun env st => (match env[n]? with | some (some v) => some (v, st) | _ => none : Option (PV × Store)).bind fun (x, s1) => (f env s1).bind fun (z, s2) => (F [x, z] s2).bind fun (v, s3) => some (.nx, env.set n (some v), s3)) :=
  PS_imp (ps_aug hN hi hx he ho hf) fun D σ H ⟨ι, env, st, r, env', st', R, E, e, q⟩ => by
  simp only at e
  split at e
  · rename_i v hv
    simp only [Option.bind_some] at e
    obtain ⟨u, hu, ru⟩ := E.2 n _ hv
    cases h1 : f env st with
    | none => simp [h1] at e
    | some p =>
      obtain ⟨z, s1⟩ := p
      simp only [h1, Option.bind_some] at e
      cases h2 : F [v, z] s1 with
      | none => simp [h2] at e
      | some p2 =>
        simp only [h2, Option.bind_some, Option.some.injEq, Prod.mk.injEq] at e
        obtain ⟨rfl, rfl, rfl⟩ := e
        obtain ⟨i, j, ex, rfl⟩ := hF _ _ _ h2
        simp only [List.cons.injEq, and_true] at ex
        obtain ⟨rfl, rfl⟩ := ex
        have ru : u = .int i := by simpa only [RV] using ru
        subst ru
        refine ⟨_, hu, ι, env, st, _, s1, R, E, h1, fun ι1 w H1 l1 R1 r1 => ?_⟩
        have r1 : w = .int j := by simpa only [RV] using r1
        subst r1
        exact ⟨i, j, rfl, rfl, q ι1 _ H1 l1 R1 ((E.le l1.ex).set (by simp only [RV]))⟩
  · cases e
end
section
variable {c : C0} {k : Nat} {T : Tab} {rE : RE'} {rL : RL'} {rS : RS'} {t : Ct} {X : Cx} {s : Stmt}
def GS (c : C0) (k : Nat) (rS : RS') : Prop := ∀ (t : Ct) (X : Cx) (l : List Stmt), Mts c k t X → JSs X l (dS (rS t l))
theorem stepS_ok (TO : TabOk c k T) (hE : GE c k rE) (hL : GL c k rL) (hS : GS c k rS) (M : Mts c k t X) : JS X s (dS (stepS T rE rL rS t s)) := by
  have M0 := M.toMtc
  unfold stepS
  split
  · rename_i e p
    refine js_if (fun u => js_dd fun a ha => js_mono (js_ex (hE t X e a M0 ha).1 ?_) fun env st r e => by simpa only [dS] using e) fun _ => js_d
    cases e <;> first | rfl | cases u
  · rename_i e p
    exact js_dd fun a ha => js_mono (js_ret (hE t X e a M0 ha).1) fun env st r e => by simpa only [dS] using e
  · rename_i p
    refine PS_imp ps_retN fun D σ H ⟨ι, env, st, r, env', st', R, E, e, q⟩ => ?_
    simp only [dS, dE, Option.bind_some, Option.some.injEq, Prod.mk.injEq] at e
    obtain ⟨rfl, rfl, rfl⟩ := e
    exact q ι (.non) H .refl R (by simp only [RV])
  · rename_i y p e q
    refine js_if (fun u => js_dd fun i hi => ?_) fun _ => js_d
    obtain ⟨a1, a2, a3⟩ := asg_ok M0 u hi
    refine js_if (fun sw => js_if (fun u1 => js_dd fun a ha => ?_) fun _ => js_d) fun sw => js_dd fun a ha => ?_
    · simp only [Bool.and_eq_true, decide_eq_true_eq] at u1
      exact set_sw TO hE hL M0 ha a1 (by rw [M0.sc]; exact u1.1.1) u1.1.2 u1.2
    · exact js_mono (js_set M.nd a1 a2 (hE t X e a M0 ha).1 (sw_false M.kind (by rw [M0.sc]; exact sw)) a3) fun env st r e => by simpa only [dS] using e
  · rename_i o i p e q
    refine js_dd fun a ha => js_dd fun x hx => js_mono (js_asg (hE t X e x M0 hx).1 (t1_ok hE M0 ha) rfl (by cases e <;> rfl) rfl) fun env st r e => by simpa only [dS] using e
  · rename_i x p1 y p2 kk p a b k2 p3 q
    split
    · rename_i hw
      exact js_dd fun ts hts => js_dd fun z hz => js_tup hE M0 hts (hE t X _ z M0 hz).1 (swapN_ok M.kind (by rw [M0.sc]; exact hw))
    · rename_i x' y' hw
      refine js_if (fun u => js_dd fun i hi => js_dd fun j hj => js_if (fun ne => js_dd fun es hes => ?_) fun _ => js_d) fun _ => js_d
      simp only [Bool.and_eq_true, decide_eq_true_eq] at u ne
      obtain ⟨⟨⟨rfl, rfl⟩, lx⟩, ly⟩ := u
      obtain ⟨ja, _, l⟩ := ja_es hE M0 hes
      refine js_mono (js_par M.O.calm M.nd (by rw [M.N]; exact nmI_ok hi) (by rw [M.N]; exact nmI_ok hj) ne (by rw [M0.sc]; exact lx) (by rw [M0.sc]; exact ly) ja (swapN_ok M.kind (by rw [M0.sc]; exact hw))) fun env st r e => ?_
      simp only [dS, dE, fTup] at e
      cases h1 : dEs es env st with
      | none => simp [h1] at e
      | some pr =>
        obtain ⟨xs, s1⟩ := pr
        have hl := (dEs_len h1).trans l
        simp only [h1, Option.bind_some] at e ⊢
        match xs, hl with
        | [v, w], _ => simpa only [dT1s, dT1, Option.bind_some] using e
    · exact js_d
  · rename_i x p1 y p2 z p4 kk p a b d k2 p3 q
    split
    · rename_i hw
      exact js_dd fun ts hts => js_dd fun z hz => js_tup hE M0 hts (hE t X _ z M0 hz).1 (swapN_ok M.kind (by rw [M0.sc]; exact hw))
    · rename_i x' y' z' hw
      refine js_if (fun u => js_dd fun i hi => js_dd fun j hj => js_dd fun l hl => js_if (fun ne => js_dd fun es hes => ?_) fun _ => js_d) fun _ => js_d
      simp only [Bool.and_eq_true, decide_eq_true_eq] at u ne
      obtain ⟨⟨⟨⟨⟨rfl, rfl⟩, rfl⟩, lx⟩, ly⟩, lz⟩ := u
      obtain ⟨ja, _, l⟩ := ja_es hE M0 hes
      refine js_mono (js_par3 M.O.calm M.nd (by rw [M.N]; exact nmI_ok hi) (by rw [M.N]; exact nmI_ok hj) (by rw [M.N]; exact nmI_ok hl) ne.1.1 ne.1.2 ne.2 (by rw [M0.sc]; exact lx) (by rw [M0.sc]; exact ly) (by rw [M0.sc]; exact lz) ja (swapN_ok M.kind (by rw [M0.sc]; exact hw))) fun env st r e => ?_
      simp only [dS, dE, fTup] at e
      cases h1 : dEs es env st with
      | none => simp [h1] at e
      | some pr =>
        obtain ⟨xs, s1⟩ := pr
        have hl := (dEs_len h1).trans l
        simp only [h1, Option.bind_some] at e ⊢
        match xs, hl with
        | [v, w, u], _ => simpa only [dT1s, dT1, Option.bind_some] using e
    · exact js_d
  · split
    · rename_i hw
      exact js_dd fun ts hts => js_dd fun z hz => js_tup hE M0 hts (hE t X _ z M0 hz).1 (swapN_ok M.kind (by rw [M0.sc]; exact hw))
    · exact js_d
  · rename_i ts kk p e q _ _ _
    refine js_if (fun _ => js_d) fun u => js_dd fun a ha => js_dd fun x hx => js_tup hE M0 ha (hE t X e x M0 hx).1 ?_
    cases e <;> first | rfl | cases u
  · rename_i y p e q
    refine js_if (fun u => js_dd fun i hi => js_dd fun a ha => ?_) fun _ => js_d
    obtain ⟨a1, a2, a3⟩ := asg_ok M0 u hi
    refine js_mono (js_aug (F := fAddI) M.nd a1 a2 a3 (hE t X e a M0 ha).1 ip_add fun xs st r h => ?_) fun env st r e => ?_
    · unfold fAddI at h
      split at h
      · cases h; exact ⟨_, _, rfl, rfl⟩
      · cases h
    · simp only [dS, app2, Option.bind_assoc] at e
      simp only [dE] at e
      exact e
  · rename_i y p e q
    refine js_if (fun u => js_dd fun i hi => js_dd fun a ha => ?_) fun _ => js_d
    obtain ⟨a1, a2, a3⟩ := asg_ok M0 u hi
    refine js_mono (js_aug (F := fSubI) M.nd a1 a2 a3 (hE t X e a M0 ha).1 ip_sub fun xs st r h => ?_) fun env st r e => ?_
    · unfold fSubI at h
      split at h
      · cases h; exact ⟨_, _, rfl, rfl⟩
      · cases h
    · simp only [dS, app2, Option.bind_assoc] at e
      simp only [dE] at e
      exact e
  · rename_i cc a b q
    exact js_dd fun x hx => js_mono (js_ite (hE t X cc x M0 hx).2 (hS t X a M) (hS t X b M)) fun env st r e => by simpa only [dS] using e
  · rename_i cc b q
    exact js_dd fun x hx => js_mono (js_whl (n := fuel) M.ps (hE t X cc x M0 hx).2 (hS t X b M)) fun env st r e => by simpa only [dS] using e
  · rename_i tg iter b q
    refine js_if (fun u => js_dd fun g hg => js_dd fun i hi => ?_) fun _ => js_d
    refine js_mono (js_lock i (js_for M.ps M.O.calm (stepI_ok TO hE hL M0 hi) (tg_ok M0 hg) (hS t X b M) (notSet_ok u _))) fun env st r e => ?_
    simp only [dS] at e
    simp only [lkdS, coreF, Option.bind_assoc]
    exact e
  · exact js_mono js_pass fun env st r e => by simpa only [dS] using e
  · exact js_mono js_brk fun env st r e => by simpa only [dS] using e
  · exact js_mono js_cont fun env st r e => by simpa only [dS] using e
  · exact js_d
theorem stepT_ok (TO : TabOk c k T) (hE : GE c k rE) (hL : GL c k rL) (hS : GS c k rS) {t : Ct} {X : Cx} {s : Stmt} (M : Mts c k t X) : JS X s (dS (stepT T rE rL rS t s)) := by
  unfold stepT
  split
  · rename_i o f p e q
    have M0 := M.toMtc
    refine js_dd fun F hF => js_dd fun a ha => js_dd fun b hb => ?_
    refine js_mono (TO.sa f F hF X M0.O o e _ _ p q (hE t X o a M0 ha).1 (hE t X e b M0 hb).1) fun env st r h => ?_
    simp only [dS, app2, Option.bind_assoc] at h
    exact h
  · exact stepS_ok TO hE hL hS M
theorem jss_d {l : List Stmt} : JSs X l (dS .dead) := PSs_imp pss_never fun D σ H ⟨ι, env, st, r, env', st', R, E, e, q⟩ => by simp only [dS] at e; cases e
theorem trS_ok (TO : TabOk c k T) : ∀ n : Nat, GS c k (trS T n)
  | 0 => fun t X l M => jss_d
  | n + 1 => fun t X l M => by
    obtain ⟨hE, hL⟩ := trB_ok TO n
    have ih := trS_ok TO n
    match l with
    | [] => exact jss_mono jss_nil fun env st r e => by simpa only [trS, dS] using e
    | [s] =>
      refine jss_mono (jss_cons (stepT_ok TO hE hL ih M) jss_nil) fun env st r e => ?_
      simp only [trS] at e
      unfold fSeq
      rw [e]
      obtain ⟨f, e2, s2⟩ := r
      cases f <;> rfl
    | s :: s2 :: r =>
      refine jss_mono (jss_cons (stepT_ok TO hE hL ih M) (ih t X (s2 :: r) M)) fun env st r e => ?_
      simp only [trS, dS] at e
      exact e
end
end Den

/-! DenW: functions. -/
namespace Den
open PySem PySem.Spec PyProof.Rows L2
/-- a def: p parameters, n slots -/
def runF (p n : Nat) (b : S) : Fn := fun vs st => if vs.length = p then run n b vs st else none
def spD (K : PySem.W.Frag) (mg : Str → Option Value) (F : Fn) : Sp := fun vs H Q _ => ∃ ι st xs z st', RS K mg ι st H ∧ RVs K mg ι H xs vs ∧ F xs st = some (z, st') ∧ Pst K mg ι H z st' Q
structure Kn (c : C0) (k : Nat) (x : Str) (F : Fn) : Prop where
  ex : ∃ (f : Addr) (fd : FuncData) (ps : List Str), FnOk c.P c.w c.K c.mg c.base CX0 k f fd ps (spD c.K c.mg F) ∧ c.mg x = some (.ref f) ∧ PySem.W.keepIn c.K (.ref f) = true ∧ Binds c.K fd ps []
  db : (x == ("__debug__" : Str)) = false
theorem Kn.mono {c : C0} {j k : Nat} {x : Str} {F : Fn} (h : Kn c j x F) (hk : j ≤ k) : Kn c k x F := by
  obtain ⟨⟨f, fd, ps, a, b, d, e⟩, db⟩ := h
  exact ⟨⟨f, fd, ps, a.mono hk, b, d, e⟩, db⟩
theorem le_call {K : PySem.W.Frag} {mg : Str → Option Value} {F : Fn} {f : Env → Store → Option (List PV × Store)} {σ : L2.St} {H : Hp} {Q : VK} {E : XK} (h : LE K mg (fun env st => (f env st).bind fun (xs, s1) => F xs s1) σ H Q) : tCall (spD K mg F) [] E (LA K mg f) σ H Q := by
  obtain ⟨ι, env, st, z, st', R, E, e, q⟩ := h
  cases h1 : f env st with
  | none => simp [h1] at e
  | some p =>
    obtain ⟨xs, s1⟩ := p
    simp only [h1, Option.bind_some] at e
    refine ⟨ι, env, st, xs, s1, R, E, h1, fun ι1 vs H1 l1 R1 r1 => ?_⟩
    show spD K mg F (vs ++ []) H1 Q _
    rw [List.append_nil]
    exact ⟨ι1, s1, xs, z, st', R1, r1, e, fun ι2 v H2 l2 R2 r2 => q ι2 v H2 (l1.trans l2) R2 r2⟩
theorem Kn.fns {c : C0} {j k : Nat} {x : Str} {F : Fn} (h : Kn c j x F) (hk : j ≤ k) : FnS c k x F := fun X O hg es f p pos u ha h0 => by
  obtain ⟨⟨fa, fd, ps, FO, hm, kp, b⟩, db⟩ := h
  obtain ⟨P, w, K, mg, base⟩ := c
  have e1 := O.P
  have e2 := O.w
  have e3 := O.K
  have e4 := O.mg
  have e5 := O.base
  simp only at e1 e2 e3 e4 e5 FO hm kp b
  subst e1 e2 e3 e4 e5
  cases es with
  | cons e es =>
    simp only [unsts, Bool.and_eq_true] at u
    exact PE_imp (pe_call FO (O.room.mono hk) hg hm kp b .nil pass0 ha db (starEach_cons u.1) (plain_back u.2)) fun _ _ _ q => le_call (E := E0) q
  | nil =>
    refine PE_imp (pe_call0 (p := p) (pos := pos) (E := E0) FO (O.room.mono hk) hg hm kp b .nil pass0 db) fun σ H Q ⟨ι, env, st, z, st', R, E, e, q⟩ => ?_
    cases h1 : f env st with
    | none => simp [h1] at e
    | some p1 =>
      have := h0 rfl _ _ _ h1
      subst this
      simp only [h1, Option.bind_some] at e
      exact ⟨ι, st, [], z, st', R, .nil, e, q⟩
theorem re_start {K : PySem.W.Frag} {mg : Str → Option Value} {ι : List Addr} {H : Hp} : ∀ {xs : List PV} {vs : List V} {m : Nat}, RVs K mg ι H xs vs → RE K mg ι H (xs.map some ++ List.replicate m none) (vs.map some ++ List.replicate m none) := fun {xs vs m} r => by
  have hl := r.length
  refine ⟨by simp [hl], fun i x e => ?_⟩
  by_cases hi : i < xs.length
  · rw [List.getElem?_append_left (by simpa using hi), List.getElem?_map] at e
    rw [List.getElem?_append_left (by simpa [← hl] using hi), List.getElem?_map]
    cases h1 : xs[i]? with
    | none => simp [h1] at e
    | some y =>
      rw [h1] at e
      have : y = x := by simpa using e
      subst this
      obtain ⟨v, hv, rv⟩ := r.get h1
      exact ⟨v, by rw [hv]; rfl, rv⟩
  · rw [List.getElem?_append_right (by simpa using hi)] at e
    have := List.mem_replicate.mp (List.mem_of_getElem? e)
    exact nomatch this.2
theorem fn_step {c : C0} {k : Nat} {T : Tab} {x qual : Str} {st : Stmt} {f : Addr} {fd : FuncData} {N ps : List Str} {b : S} {m : Nat} (F : Fun c.K x qual st f fd) (S : FnScope N ps (defScope st)) (TO : TabOk c k T)
    (tr : trS T m ⟨N, defScope st, fun _ => true⟩ (defBody st) = b) : FnOk c.P c.w c.K c.mg c.base CX0 (k + 1) f fd ps (spD c.K c.mg (runF ps.length N.length b)) := by
  refine F.ok S (fun vs H Q E h => ?_) (fun cdv A outer s H vs Q E hr h => ?_)
  · obtain ⟨ι, st, xs, z, st', R, r, e, q⟩ := h
    unfold runF at e
    split at e
    · rename_i hl
      rw [← r.length]; exact hl
    · cases e
  · obtain ⟨ι, st0, xs, z, st', R, r, e, q⟩ := h
    have M : Mts c k ⟨N, defScope st, fun _ => true⟩ (cxOf CX0 c.P c.w c.K c.mg c.base N qual (defScope st) f cdv A outer s H E).nox :=
      { O := ⟨rfl, rfl, rfl, rfl, rfl, rfl, hr⟩, N := rfl, nd := S.nd, sc := rfl, fn := rfl, kind := S.kind, ps := PassesOwn.never }
    have J := trS_ok TO m _ _ (defBody st) M
    rw [tr] at J
    refine ⟨_, J, ?_⟩
    unfold runF at e
    split at e
    · unfold run at e
      cases h1 : dS b (xs.map some ++ List.replicate (N.length - xs.length) none) st0 with
      | none => simp [h1] at e
      | some pr =>
        obtain ⟨fl, env', s1⟩ := pr
        simp only [h1, Option.bind_some] at e
        refine ⟨ι, _, st0, fl, env', s1, R, ?_, h1, ?_⟩
        · show RE c.K c.mg ι H _ (L2.start N vs)
          unfold L2.start
          rw [← r.length]
          exact re_start r
        · cases fl with
          | ret v =>
            simp only [Option.some.injEq, Prod.mk.injEq] at e
            obtain ⟨rfl, rfl⟩ := e
            exact fun ι' u H' l R' r' => q ι' u H' l R' r'
          | nx =>
            simp only [Option.some.injEq, Prod.mk.injEq] at e
            obtain ⟨rfl, rfl⟩ := e
            exact fun ι' σ' H' l R' r' => q ι' .non H' l R' (by simp only [RV])
          | brk => cases e
          | cont => cases e
    · cases e
end Den

/-! DenTd: tuple(d), the keys of a dict. -/
namespace Den
open PySem PySem.Spec PySem.Calls PyProof.Rows PyProof.V L2
section
variable {pg : Program} {w : World} {A : Around} {Er : Value → Shared → Prop} {s : Shared} {ty : String} {r d : Addr} {n : Nat} {Pi : Nat → Value → Prop} {Ho : Heap → Prop}
/-- what is collected of a source whose items are known -/
theorem collect_src {Ql : List Value → Shared → Prop} (src : PySem.W.KdlSrc pg w ty r d n Pi Ho) (nh : A.handled = none) (ok : Ho s.heap) (le : n ≤ sizeLine)
    (fin : ∀ (hp : Heap) (tk : Nat) (its : Array Value), (∀ b o, s.heap.get? b = some o → hp.get? b = some o) → ItemsOf Pi its n → Ql its.toList { s with heap := hp, toks := tk }) :
    wpAny (model pg w) A (collect (.ref r)) Ql Er s := by
  have th := src.there _ ok
  have ok' : Ho (s.heap.push { cls := .type "list", data := .seq ([] : List Value).toArray }) := src.keep _ _ ok fun b _ o e => Heap.get?_push_of_some _ e
  have at0 : (s.heap.push { cls := .type "list", data := .seq ([] : List Value).toArray }).get? s.heap.objs.size = some { cls := .type "list", data := .seq #[] 0 } :=
    Heap.get?_push_size _ rfl
  unfold collect
  refine wpAny_bind (wpAny_runValue (codeAny_builtin F.entry_proto_collect ?_))
  rw [Around.under_plainId F.plain_proto_collect _]
  change wpAny _ A.in1 (newList [] >>= fun l => again (.builtin "list.__iadd__" ⟨[l, .ref r], []⟩)) _ _ s
  refine wpAny_bind (wpAny_newObj_type ?_)
  refine wpAny_pure ⟨plainId_quiet F.plain_list_iadd _, codeAny_builtin F.entry_list_iadd ?_⟩
  rw [Around.under_plainId F.plain_list_iadd _]
  change wpAny _ A.in1 (Builtin.List.listExtendWith (.ref s.heap.objs.size) (.ref r) (.ref s.heap.objs.size)) _ _ _
  let Rs : Result → Shared → Prop := fun x s' => x = .ok (.ret (.ref s.heap.objs.size)) ∧ ∃ (hp : Heap) (tk : Nat) (its : Array Value) (c : Nat), s' = { s with heap := hp, toks := tk } ∧
      (∀ b o, s.heap.get? b = some o → hp.get? b = some o) ∧ hp.get? s.heap.objs.size = some { cls := .type "list", dict := none, data := .seq its c, slots := #[] } ∧ ItemsOf Pi its n
  refine wpAny_mono (PySem.W.kdl_extend (A := A) (R := Rs) (s := { s with heap := s.heap.push { cls := .type "list", data := .seq ([] : List Value).toArray } }) src nh ok'
    s.heap.objs.size (Nat.ne_of_gt th.1) (Nat.ne_of_gt th.2) _ 0 at0 (fun hp tk its c kp e it => ?_) le) (fun x s' hx => ?_) (fun e s' hx => ?_)
  · exact ⟨rfl, hp, tk, its, c, rfl, fun b o q => kp b o (Nat.ne_of_lt (Heap.lt_size q)) (Heap.get?_push_of_some _ q), e, it⟩
  · cases x with
    | done f =>
      obtain ⟨e, hp, tk, its, c, rfl, kp, at1, it⟩ := hx
      cases e
      change wpAny _ A (load s.heap.objs.size >>= _) _ _ _
      exact wpAny_bind (wpAny_load at1 (wpAny_pure (fin hp tk its kp it)))
    | again cd =>
      refine ⟨hx.1, codeAny_mono hx.2 fun y s2 hy => ?_⟩
      obtain ⟨rfl, hp, tk, its, c, rfl, kp, at1, it⟩ := hy
      change wpAny _ A (load s.heap.objs.size >>= _) _ _ _
      exact wpAny_bind (wpAny_load at1 (wpAny_pure (fin hp tk its kp it)))
  · exact absurd hx.1 (by simp)
theorem tuple_new_src {Qv : Value → Shared → Prop} (src : PySem.W.KdlSrc pg w "dict" r d n Pi Ho) (nh : A.handled = none) (ok : Ho s.heap) (le : n ≤ sizeLine)
    (fin : ∀ (hp : Heap) (tk : Nat) (its : Array Value), (∀ b o, s.heap.get? b = some o → hp.get? b = some o) → ItemsOf Pi its n →
      Qv (.ref hp.objs.size) { s with heap := hp.push { cls := .type "tuple", data := .seq its }, toks := tk }) :
    codeAny (model pg w) A (.call (.builtin "tuple.__new__") ⟨[.type "tuple", .ref r], []⟩) (wants Qv Er) s := by
  refine codeAny_of_tree ?_
  change wpAny _ A.in1 (do
    checkBuiltinCall "tuple.__new__" ⟨[.type "tuple", .ref r], []⟩
    again (.builtin "tuple.__new__" ⟨[.type "tuple", .ref r], []⟩)) _ _ s
  refine wpAny_bind (wpAny_of_eq (F.newCall_tuple_1 _) (wpAny_pure ⟨plainId_quiet F.plain_tuple_new _, codeAny_builtin F.entry_tuple_new ?_⟩))
  rw [Around.under_plainId F.plain_tuple_new _]
  have h1 := sub_tuple_self
  have h2 := init_tuple_lookup
  have h3 := madeHere_tuple
  have hT : s.TypeIs (.ref r) "dict" := src.type s ok
  have nh1 : A.in1.handled = none := nh
  wp_walk using wpAny_typeOf hT, collect_src (A := A.in1) src nh1 ok le
  intro hp tk its kp it
  change wpAny _ _ (Builtin.Tuple.tupleExact its.toList.toArray >>= fun v => ret v) _ _ _
  unfold Builtin.Tuple.tupleExact
  refine wpAny_bind (wpAny_newObj_type ?_ (by
    change its.toList.toArray.size ≤ sizeLine
    simp only [Array.toArray_toList]
    rw [it.1]; exact le))
  refine wpAny_pure ?_
  have e : its.toList.toArray = its := by simp
  rw [e]
  exact fin hp tk its kp it
theorem call_tuple_src {Qv : Value → Shared → Prop} (src : PySem.W.KdlSrc pg w "dict" r d n Pi Ho) (nh : A.handled = none) (ok : Ho s.heap) (le : n ≤ sizeLine)
    (fin : ∀ (hp : Heap) (tk : Nat) (its : Array Value), (∀ b o, s.heap.get? b = some o → hp.get? b = some o) → ItemsOf Pi its n →
      Qv (.ref hp.objs.size) { s with heap := hp.push { cls := .type "tuple", data := .seq its }, toks := tk }) :
    wpAny (model pg w) A (call (.type "tuple") [.ref r]) Qv Er s := by
  refine callType_codes (Q₁ := fun ob s1 => s1.TypeIs ob "tuple" ∧ Qv ob s1) F.called_tuple (F.typeCall_tuple_1 _) F.entry_object_init ?_ fun ob s1 q1 => ?_
  · exact tuple_new_src (A := A.in1) src nh ok le fun hp tk its kp it => ⟨⟨_, Heap.get?_push_size _ rfl, rfl⟩, fin hp tk its kp it⟩
  · exact ⟨q1.1, F.args_object_init_2 ob _, object_init_meets F.called_tuple.init.lookup F.called_tuple.made (by decide) pg w A.in1 _ s1 ⟨q1.1, rfl, q1.2⟩⟩
end
def rTupD : List V → Hp → VK → Prop := fun xs H Q => ∃ p kvs, xs = [.ref p] ∧ H p = some (.dK kvs) ∧ ∀ q, H q = none → Q (.ref q) (upd H q (.tup (kvs.map fun kv => kV kv.1)))
theorem call_tupD {X : Cx} (hc : X.calm = true) : CallR X (.type "tuple") rTupD := by
  intro pins s σ H xs us Q I r h
  obtain ⟨p, kvs, e, hk, q⟩ := h
  subst e
  obtain ⟨u, eu, rx⟩ := vals1 r
  subst eu
  obtain rfl : u = Value.ref p := rx
  obtain ⟨z, lo, vs, rk, hd⟩ := (show ObjOk X.prog X.w H s.heap p (.dK kvs) from I.hok p _ hk)
  obtain ⟨ep, hat⟩ := hd.dictAt
  have hl : kvs.length = vs.length := Paired.length rk
  refine call_tuple_src (PySem.W.kdl_dict (knd := mixKind X.prog X.w) (kvs := vs) (ep := ep) lo) (I.ok.hd hc) hat (by rw [← hl]; exact z) fun h' tk its kp it => ?_
  have I2 : Inv X pins σ H { s with heap := h', toks := tk } := I.kept kp
  have kv : Vals (kvs.map fun kv => kV kv.1) its.toList := by
    have el : its.toList.length = its.size := by simp
    refine vals_of_at (by rw [List.length_map, el, it.1, hl]) fun j x w h1 h2 => ?_
    obtain ⟨k, y, hky, hi⟩ := it.2 j w (by rw [← Array.getElem?_toList]; exact h2)
    have e1 : (kvs.map (·.1))[j]? = some k := by
      rw [KV.keys rk, List.getElem?_map, hky] <;> rfl
    have e3 : (kvs.map fun kv => kV kv.1) = (kvs.map (·.1)).map kV := by rw [List.map_map] <;> rfl
    rw [e3, List.getElem?_map, e1] at h1
    cases h1
    exact keyIs_rel hi
  refine ⟨.ref h'.objs.size, upd H h'.objs.size (.tup (kvs.map fun kv => kV kv.1)),
    I2.laid (t' := tk) (fun c o e => Heap.get?_push_of_some _ e) (Nat.le_refl _) (show ObjOk X.prog X.w _ _ _ (.tup (kvs.map fun kv => kV kv.1)) from ⟨?_, its.toList, kv, ?_⟩), rfl, q _ (I2.hok.fresh (Nat.le_refl _))⟩
  · rw [List.length_map]; exact z
  · rw [Array.toArray_toList]; exact IsTup.new _ _
/-- tuple(x), of a dict too -/
def fTupD : Fn
  | [.ref n], st => match st[n]? with
    | some (.dic false kvs) => some (.tup (kvs.map fun p => kP p.1), st)
    | _ => fTuple [.ref n] st
  | xs, st => fTuple xs st
theorem sem_tupD {K : PySem.W.Frag} {mg : Str → Option Value} : SemC K mg fTupD (fun xs H Q => rTupA K xs H Q ∨ rTupD xs H Q) := fun ι st H xs vs z st' Q R rv e q => by
  unfold fTupD at e
  split at e
  · rename_i n
    split at e
    · rename_i kvs hk
      simp only [Option.some.injEq, Prod.mk.injEq] at e
      obtain ⟨rfl, rfl⟩ := e
      obtain ⟨v, rfl, r⟩ := rv.one
      simp only [RV] at r
      obtain ⟨a, ha, rfl⟩ := r
      obtain ⟨a', ha', kw, hd, rp⟩ := R.ob _ _ hk
      have : a' = a := Option.some.inj (ha'.symm.trans ha)
      subst this
      refine .inr ⟨a', kw, rfl, hd, fun p hp => ?_⟩
      refine q ι _ _ (.new hp) (R.new hp) ?_
      simp only [RV]
      exact ⟨p, _, rfl, .inl (.inl upd_same), (keys_rv rp).le (Le.new (ι := ι) hp).ex⟩
    · exact .inl (sem_tuple ι st H _ vs z st' Q R rv e q)
  · exact .inl (sem_tuple ι st H _ vs z st' Q R rv e q)
end Den

/-! DenX: what is known of the built-in names. -/
namespace Den
open PySem PySem.Spec PyProof.Rows L2
/-- dict(d): a copy -/
def fDict : Fn
  | [.ref n], st => match st[n]? with
    | some (.dic false kvs) => some (.ref st.length, st ++ [.dic false kvs])
    | _ => none
  | _, _ => none
section
variable {K : PySem.W.Frag} {mg : Str → Option Value}
theorem sem_dict : SemC K mg fDict (fun xs H Q => ∃ (a : Addr) (kvs : List (Key × V)), xs = [.ref a] ∧ Rd H a (.dK kvs) ∧ ∀ p, H p = none → Q (.ref p) (upd H p (.dK kvs))) := fun ι st H xs vs z st' Q R rv e q => by
  unfold fDict at e
  split at e
  · rename_i n
    split at e
    · rename_i kvs hk
      simp only [Option.some.injEq, Prod.mk.injEq] at e
      obtain ⟨rfl, rfl⟩ := e
      obtain ⟨v, rfl, r⟩ := rv.one
      simp only [RV] at r
      obtain ⟨a, ha, rfl⟩ := r
      obtain ⟨a', ha', kw, hd, rp⟩ := R.ob _ _ hk
      have : a' = a := Option.some.inj (ha'.symm.trans ha)
      subst this
      refine ⟨a', kw, rfl, .inl hd, fun p hp => ?_⟩
      have hn := R.not_mem hp
      refine q (ι ++ [p]) _ _ (.add hp) ((R.new hp).take hn ⟨_, upd_same, rp.le (Le.add (o := .dK kw) hp).ex⟩) ?_
      simp only [RV]
      exact ⟨p, by rw [List.getElem?_append_right (by rw [R.len]; exact Nat.le_refl _), R.len, Nat.sub_self]; rfl, rfl⟩
    · cases e
  · cases e
end
theorem fnS_of {c : C0} {k : Nat} {x : Str} {F : Fn} (h : ∀ X : Cx, XO c k X → Gl X x → ∀ (e : Expr) (es : List Expr) (f : Env → Store → Option (List PV × Store)) (p pos : Pos), unsts (e :: es) = true → JA X (e :: es) f →
    JE X (.Call (.Name x p) (e :: es) [] pos) (fun env st => (f env st).bind fun (xs, s1) => F xs s1)) (h0 : ∀ st r, F [] st ≠ some r) : FnS c k x F := fun X O hg es f p pos u ha hn => by
  cases es with
  | cons e es => exact h X O hg e es f p pos u ha
  | nil =>
    refine PE_never (le_never fun env st r e => ?_)
    cases h1 : f env st with
    | none => simp [h1] at e
    | some p1 =>
      have := hn rfl _ _ _ h1
      subst this
      simp only [h1, Option.bind_some] at e
      exact h0 _ _ e
theorem ll_never {K : PySem.W.Frag} {mg : Str → Option Value} {f} (h : ∀ env st r, f env st ≠ some r) : ∀ σ H Q, ¬ LL K mg f σ H Q := fun σ H Q ⟨ι, env, st, x, st', R, E, e, q⟩ => h _ _ _ e
theorem flS_T {c : C0} {k : Nat} {x : Str} {F : Fl} {T : String} {r : List V → Hp → VK → Prop} (b : Blt c k x (.type T) r) (hF : SemL c.K c.mg F r) (h0 : ∀ st r, F [] st ≠ some r) : FlS c k x F := fun X O hg es f p pos u ha hn => by
  have hF' : SemL X.K X.mg F r := by rw [O.K, O.mg]; exact hF
  cases es with
  | cons e es =>
    simp only [unsts, Bool.and_eq_true] at u
    exact PE_imp (pe_callTy (b.rule X O) hg (by rw [O.mg]; exact b.free) b.val ha b.nm b.db (starEach_cons u.1) (plain_back u.2)) fun _ _ _ q => leFl hF' q
  | nil =>
    refine PE_never (ll_never fun env st r e => ?_)
    cases h1 : f env st with
    | none => simp [h1] at e
    | some p1 =>
      have := hn rfl _ _ _ h1
      subst this
      simp only [h1, Option.bind_some] at e
      exact h0 _ _ e
theorem flS_B {c : C0} {k : Nat} {x : Str} {F : Fl} {T : String} {r : List V → Hp → VK → Prop} (b : Blt c k x (.builtin T) r) (hF : SemL c.K c.mg F r) (h0 : ∀ st r, F [] st ≠ some r) : FlS c k x F := fun X O hg es f p pos u ha hn => by
  have hF' : SemL X.K X.mg F r := by rw [O.K, O.mg]; exact hF
  cases es with
  | cons e es =>
    simp only [unsts, Bool.and_eq_true] at u
    exact PE_imp (pe_callB (b.rule X O) hg (by rw [O.mg]; exact b.free) b.val ha b.nm b.db (starEach_cons u.1) (plain_back u.2)) fun _ _ _ q => leFl hF' q
  | nil =>
    refine PE_never (ll_never fun env st r e => ?_)
    cases h1 : f env st with
    | none => simp [h1] at e
    | some p1 =>
      have := hn rfl _ _ _ h1
      subst this
      simp only [h1, Option.bind_some] at e
      exact h0 _ _ e
/-- the built-in names that stand for themselves -/
def blNames : List Str := ["int", "abs", "len", "tuple", "max", "min", "isinstance", "dict", "list", "sum", "all", "any", "bool", "str", "range", "enumerate", "zip", "sorted", "set"]
/-- the methods -/
def T0 : Tab where
  fn := [("int", fInt), ("abs", fAbs), ("len", fLen), ("tuple", fTupD), ("max", fMax), ("min", fMin), ("isinstance", fIsi), ("dict", fDict), ("sum", ofG gSum), ("all", ofG gAll), ("any", ofG gAny)]
  cn := [("tuple", gTuple), ("len", gLen), ("all", gAll), ("any", gAny), ("sum", gSum), ("max", gMax), ("min", gMin)]
  va := [("int", .ty "int"), ("bool", .ty "bool"), ("str", .ty "str"), ("tuple", .ty "tuple"), ("list", .ty "list"), ("dict", .ty "dict")]
  mp := [("sorted", mSort)]
  fl := [("list", flList), ("sorted", flSort)]
  mt := [("append", isLst, mAppend), ("extend", isLst, mExtend), ("pop", isLst, mPop), ("index", isLst, mIndex), ("get", isDic, mGet), ("copy", isDic, mCopy), ("clear", isDic, mClear)]
  bl := ["range", "enumerate", "zip", "len", "set"]
def Tab.add (T : Tab) (x : Str) (F : Fn) : Tab := { T with fn := (x, F) :: T.fn }
section
variable {c : C0} {k : Nat}
theorem va_ty {x : Str} {T : String} (hm : c.mg x = none) (hv : bootBuiltins x = some (.type T)) (hn : x ≠ "__name__") (hd : (x == ("__debug__" : Str)) = false) : VaS c k x (.ty T) := fun X O hg p => by
  refine je_mono (je_con (u := .ty T) (v := .ty T) (pe_bltn hg (by rw [O.mg]; exact hm) hv rfl hn hd) fun ι H => by simp only [RV]) fun env st r e => e
theorem mtS_of {m : Str} {ok : OkF} {F : Fn} {T id : String} {r : V → List V → Hp → VK → Prop} (pa : PlainAttrs T) (slot : Slot T m id) (hty : typeOf (.builtin id) = pure (.type "method_descriptor")) (hm : ∀ X : Cx, XO c k X → MtR X id r) (hok : TyOk c.K c.mg T ok) (hF : SemMt c.K c.mg F r) : MtS c k m ok F :=
  fun X O o es f g apos cpos mp ho ha h0 => by
  have hok' : TyOk X.K X.mg T ok := by rw [O.K, O.mg]; exact hok
  have hF' : SemMt X.K X.mg F r := by rw [O.K, O.mg]; exact hF
  cases es with
  | cons e es => exact je_bm pa slot hty (hm X O) hok' hF' mp ho ha
  | nil => exact je_bm0 pa slot hty (hm X O) hok' hF' mp ho (h0 rfl)
theorem tab0 (B : ∀ x ∈ blNames, c.mg x = none) : TabOk c k T0 where
  fn := fun x F h => by
    have pick : ∀ {l : List (Str × Fn)}, (∀ p ∈ l, FnS c k p.1 p.2) → l.lookup x = some F → FnS c k x F := fun {l} h e => by
      induction l with
      | nil => simp at e
      | cons p l ih =>
        obtain ⟨y, G⟩ := p
        rw [List.lookup_cons] at e
        cases hb : x == y with
        | true =>
          rw [hb] at e
          cases e
          have : x = y := by simpa using hb
          subst this
          exact h _ List.mem_cons_self
        | false =>
          rw [hb] at e
          exact ih (fun p hp => h p (List.mem_cons_of_mem _ hp)) e
    refine pick (l := T0.fn) (fun p hp => ?_) h
    simp only [T0, List.mem_cons, List.not_mem_nil, or_false] at hp
    rcases hp with rfl | rfl | rfl | rfl | rfl | rfl | rfl | rfl | rfl | rfl | rfl
    · exact fnS_of (fns_T ⟨fun X O => call_int1, B _ (by decide), boot_int, by decide, by decide⟩ sem_int) fun st r h => nomatch h
    · exact fnS_of (fns_B ⟨fun X O => call_abs, B _ (by decide), by decide +kernel, by decide, by decide⟩ sem_abs) fun st r h => nomatch h
    · exact fnS_of (fns_B ⟨fun X O => by rw [← O.K]; exact call_lenA, B _ (by decide), PySem.boot_len, by decide, by decide⟩ sem_len) fun st r h => nomatch h
    · exact fnS_of (fns_T ⟨fun X O => by rw [← O.K]; exact call_tuple_of.or (call_tupD O.calm), B _ (by decide), boot_tuple, by decide, by decide⟩ sem_tupD) fun st r h => nomatch h
    · exact fnS_of (fns_B ⟨fun X O => by rw [← O.K]; exact call_maxA O.calm, B _ (by decide), boot_max, by decide, by decide⟩ sem_max) fun st r h => nomatch h
    · exact fnS_of (fns_B ⟨fun X O => by rw [← O.K]; exact call_minA O.calm, B _ (by decide), boot_min, by decide, by decide⟩ sem_min) fun st r h => nomatch h
    · exact fnS_of (fns_B ⟨fun X O => by rw [← O.K]; exact call_isiA, B _ (by decide), boot_isinstance, by decide, by decide⟩ sem_isi) fun st r h => nomatch h
    · exact fnS_of (fns_T ⟨fun X O => call_dictD, B _ (by decide), boot_dict, by decide, by decide⟩ sem_dict) fun st r h => nomatch h
    · exact fnS_of (fns_B ⟨fun X O => by rw [← O.K]; exact cr_sum O.calm, B _ (by decide), boot_sum, by decide, by decide⟩ semR_sum.one) fun st r h => nomatch h
    · exact fnS_of (fns_B ⟨fun X O => by rw [← O.K]; exact cr_all O.calm, B _ (by decide), by decide +kernel, by decide, by decide⟩ semR_all.one) fun st r h => nomatch h
    · exact fnS_of (fns_B ⟨fun X O => by rw [← O.K]; exact cr_any O.calm, B _ (by decide), by decide +kernel, by decide, by decide⟩ semR_any.one) fun st r h => nomatch h
  cn := fun x F h => by
    have pick : ∀ {l : List (Str × Gn)}, (∀ p ∈ l, CnS c k p.1 p.2) → l.lookup x = some F → CnS c k x F := fun {l} h e => by
      induction l with
      | nil => simp at e
      | cons p l ih =>
        obtain ⟨y, G⟩ := p
        rw [List.lookup_cons] at e
        cases hb : x == y with
        | true =>
          rw [hb] at e
          cases e
          have : x = y := by simpa using hb
          subst this
          exact h _ List.mem_cons_self
        | false =>
          rw [hb] at e
          exact ih (fun p hp => h p (List.mem_cons_of_mem _ hp)) e
    refine pick (l := T0.cn) (fun p hp => ?_) h
    simp only [T0, List.mem_cons, List.not_mem_nil, or_false] at hp
    rcases hp with rfl | rfl | rfl | rfl | rfl | rfl | rfl
    · exact cns_T ⟨fun X O => by rw [← O.K]; exact call_tuple_of, B _ (by decide), boot_tuple, by decide, by decide⟩ semR_tuple.g
    · exact cns_B ⟨fun X O => by rw [← O.K]; exact call_lenA, B _ (by decide), PySem.boot_len, by decide, by decide⟩ semR_lenA.g
    · exact cns_B ⟨fun X O => by rw [← O.K]; exact cr_all O.calm, B _ (by decide), by decide +kernel, by decide, by decide⟩ semR_all.g
    · exact cns_B ⟨fun X O => by rw [← O.K]; exact cr_any O.calm, B _ (by decide), by decide +kernel, by decide, by decide⟩ semR_any.g
    · exact cns_B ⟨fun X O => by rw [← O.K]; exact cr_sum O.calm, B _ (by decide), boot_sum, by decide, by decide⟩ semR_sum.g
    · exact cns_B ⟨fun X O => by rw [← O.K]; exact call_maxA O.calm, B _ (by decide), boot_max, by decide, by decide⟩ semR_maxA.g
    · exact cns_B ⟨fun X O => by rw [← O.K]; exact call_minA O.calm, B _ (by decide), boot_min, by decide, by decide⟩ semR_minA.g
  mp := fun x F h => by
    simp only [T0] at h
    rw [List.lookup_cons] at h
    cases hb : x == ("sorted" : Str) with
    | true =>
      rw [hb] at h
      cases h
      have : x = "sorted" := by simpa using hb
      subst this
      exact mps_B ⟨fun X O => by rw [← O.K]; exact call_sortA O.calm, B _ (by decide), by decide +kernel, by decide, by decide⟩ semM_sort
    | false =>
      rw [hb] at h
      simp at h
  fl := fun x F h => by
    simp only [T0] at h
    rw [List.lookup_cons] at h
    cases hb : x == ("list" : Str) with
    | true =>
      rw [hb] at h
      cases h
      have : x = "list" := by simpa using hb
      subst this
      exact flS_T ⟨fun X O => by rw [← O.K]; exact call_listA O.calm, B _ (by decide), boot_list, by decide, by decide⟩ semL_list fun st r h => nomatch h
    | false =>
      rw [hb] at h
      simp only at h
      rw [List.lookup_cons] at h
      cases hc : x == ("sorted" : Str) with
      | true =>
        rw [hc] at h
        cases h
        have : x = "sorted" := by simpa using hc
        subst this
        exact flS_B ⟨fun X O => by rw [← O.K]; exact call_sortA O.calm, B _ (by decide), by decide +kernel, by decide, by decide⟩ semL_sort fun st r h => nomatch h
      | false =>
        rw [hc] at h
        simp at h
  va := fun x v h => by
    have pick : ∀ {l : List (Str × PV)}, (∀ p ∈ l, VaS c k p.1 p.2) → l.lookup x = some v → VaS c k x v := fun {l} h e => by
      induction l with
      | nil => simp at e
      | cons p l ih =>
        obtain ⟨y, G⟩ := p
        rw [List.lookup_cons] at e
        cases hb : x == y with
        | true =>
          rw [hb] at e
          cases e
          have : x = y := by simpa using hb
          subst this
          exact h _ List.mem_cons_self
        | false =>
          rw [hb] at e
          exact ih (fun p hp => h p (List.mem_cons_of_mem _ hp)) e
    refine pick (l := T0.va) (fun p hp => ?_) h
    simp only [T0, List.mem_cons, List.not_mem_nil, or_false] at hp
    rcases hp with rfl | rfl | rfl | rfl | rfl | rfl
    · exact va_ty (B _ (by decide)) boot_int (by decide) (by decide)
    · exact va_ty (B _ (by decide)) boot_bool (by decide) (by decide)
    · exact va_ty (B _ (by decide)) boot_str (by decide) (by decide)
    · exact va_ty (B _ (by decide)) boot_tuple (by decide) (by decide)
    · exact va_ty (B _ (by decide)) boot_list (by decide) (by decide)
    · exact va_ty (B _ (by decide)) boot_dict (by decide) (by decide)
  mt := fun m ok F h => by
    have pick : ∀ {l : List (Str × OkF × Fn)}, (∀ p ∈ l, MtS c k p.1 p.2.1 p.2.2) → l.lookup m = some (ok, F) → MtS c k m ok F := fun {l} h e => by
      induction l with
      | nil => simp at e
      | cons p l ih =>
        obtain ⟨y, G⟩ := p
        rw [List.lookup_cons] at e
        cases hb : m == y with
        | true =>
          rw [hb] at e
          cases e
          have : m = y := by simpa using hb
          subst this
          exact h _ List.mem_cons_self
        | false =>
          rw [hb] at e
          exact ih (fun p hp => h p (List.mem_cons_of_mem _ hp)) e
    refine pick (l := T0.mt) (fun p hp => ?_) h
    simp only [T0, List.mem_cons, List.not_mem_nil, or_false] at hp
    rcases hp with rfl | rfl | rfl | rfl | rfl | rfl | rfl
    · exact mtS_of PySem.F.plainAttrs_list PySem.F.slot_list_append PySem.F.type_list_append (fun X O => mt_append) tyOk_list sem_append
    · exact mtS_of PySem.F.plainAttrs_list PySem.F.slot_list_extend PySem.F.type_list_extend (fun X O => mt_extend) tyOk_list sem_extend
    · exact mtS_of PySem.F.plainAttrs_list PySem.F.slot_list_pop PySem.F.type_list_pop (fun X O => MtR.or mt_pop mt_popAt) tyOk_list sem_pop
    · exact mtS_of PySem.F.plainAttrs_list PySem.F.slot_list_index PySem.F.type_list_index (fun X O => by rw [← O.K]; exact mt_index) tyOk_list sem_index
    · exact mtS_of PySem.F.plainAttrs_dict PySem.F.slot_dict_get PySem.F.type_dict_get (fun X O => mt_get (by have := O.room.units; omega)) tyOk_dict sem_get
    · exact mtS_of PySem.F.plainAttrs_dict PySem.F.slot_dict_copy PySem.F.type_dict_copy (fun X O => mt_copy) tyOk_dict sem_copy
    · exact mtS_of PySem.F.plainAttrs_dict PySem.F.slot_dict_clear PySem.F.type_dict_clear (fun X O => mtd_clear) tyOk_dict sem_clear
  bl := fun x h => B x (by
    simp only [T0, List.contains_iff_mem] at h
    simp only [List.mem_cons, List.not_mem_nil, or_false] at h
    rcases h with rfl | rfl | rfl | rfl | rfl <;> decide)
  at_ := fun f F h => by simp [T0] at h
  sa := fun f F h => by simp [T0] at h
theorem TabOk.add {T : Tab} (h : TabOk c k T) {x : Str} {F : Fn} {j : Nat} (hx : Kn c j x F) (hj : j ≤ k) : TabOk c k (T.add x F) where
  fn := fun y G e => by
    simp only [Tab.add] at e
    rw [List.lookup_cons] at e
    cases hb : y == x with
    | true =>
      rw [hb] at e
      cases e
      have : y = x := by simpa using hb
      subst this
      exact hx.fns hj
    | false =>
      rw [hb] at e
      exact h.fn y G e
  cn := h.cn
  mp := h.mp
  fl := h.fl
  va := h.va
  mt := h.mt
  bl := h.bl
  at_ := h.at_
  sa := h.sa
theorem kn_mk {T : Tab} {x : Str} {st : Stmt} {f : Addr} {fd : FuncData} {N ps : List Str} {b : S} {m : Nat} (F : Fun c.K x x st f fd) (S : FnScope N ps (defScope st)) (TO : TabOk c k T) (tr : trS T m ⟨N, defScope st, fun _ => true⟩ (defBody st) = b)
    (hm : c.mg x = some (.ref f)) (hb : Binds c.K fd ps []) (db : (x == ("__debug__" : Str)) = false) : Kn c (k + 1) x (runF ps.length N.length b) := ⟨⟨f, fd, ps, fn_step F S TO tr, hm, F.kp, hb⟩, db⟩
end
end Den

/-! DenY: a law's end. -/
namespace Den
open PySem PySem.Spec PyProof.Rows L2
/-- what the law's def is asked -/
def spLaw (n : Nat) (K : PySem.W.Frag) : Sp := fun vs H Q _ => ∃ (a : Addr) (ns : List Int), vs = [.ref a] ∧ ns.length ≤ n ∧ Only H ∧ SqL K H a (ns.map V.int) ∧ ∀ H', Q (.bl true) H'
theorem law_sp {P : Program} {w : World} {K : PySem.W.Frag} {mg : Str → Option Value} {base : Heap} {k n : Nat} {f : Addr} {fd : FuncData} {ps : List Str} {F : Fn} (h : FnOk P w K mg base CX0 k f fd ps (spD K mg F))
    (hF : ∀ ns : List Int, ns.length ≤ n → ∃ st', F [.sls ns] [] = some (.bl true, st')) : FnOk P w K mg base CX0 k f fd ps (spLaw n K) :=
  h.imp fun vs H Q E ⟨a, ns, ev, hl, hO, hS, q⟩ => by
    subst ev
    obtain ⟨st', e⟩ := hF ns hl
    refine ⟨[], [], [.sls ns], .bl true, st', ⟨rfl, List.nodup_nil, fun n ob z => by simp at z⟩, ?_, e, fun ι' v H' l R r => ?_⟩
    · refine RVs.cons ?_ .nil
      simp only [RV]
      refine ⟨a, rfl, ?_⟩
      rcases hS with (z | z) | z
      · rcases hO a with y | ⟨o, xs, y⟩
        · rw [y] at z; cases z
        · rw [y] at z; cases z
      · exact .inl z
      · exact .inr z
    · have : v = .bl true := by simpa only [RV] using r
      subst this
      exact q H'
/-- a def of the module, as it stands behind the top -/
structure DefAt (K : PySem.W.Frag) (x : Str) (st : Stmt) : Prop where
  ex : ∃ (f : Addr) (oc : Value) (od an : Option Addr) (kV doc pm cdv ct : Value) (sl : Array (Option Value)), PySem.W.nsIn K mainGlobals x = some (some (.ref f)) ∧
    K.lookup f = some ⟨oc, od, .func (PySem.W.fnOf x x (defArgs st) (defBody st) (defScope st) .none kV doc pm an cdv ct), sl⟩ ∧ PySem.W.codeIn K cdv x = true ∧ PySem.W.keepIn K (.ref f) = true
theorem defAt_mk {K : PySem.W.Frag} {x : Str} {st : Stmt} {f : Addr} {oc : Value} {od an : Option Addr} {kV doc pm cdv ct : Value} {sl : Array (Option Value)} (a : PySem.W.nsIn K mainGlobals x = some (some (.ref f)))
    (l : K.lookup f = some ⟨oc, od, .func (PySem.W.fnOf x x (defArgs st) (defBody st) (defScope st) .none kV doc pm an cdv ct), sl⟩) (cd : PySem.W.codeIn K cdv x = true) (kp : PySem.W.keepIn K (.ref f) = true) : DefAt K x st :=
  ⟨⟨f, oc, od, an, kV, doc, pm, cdv, ct, sl, a, l, cd, kp⟩⟩
/-- its arguments bind -/
def BindOk (x : Str) (st : Stmt) (ps : List Str) : Prop := ∀ (kV doc pm : Value) (an : Option Addr) (cdv ct : Value) (us : List Value), us.length = ps.length → bindArgs (PySem.W.fnOf x x (defArgs st) (defBody st) (defScope st) .none kV doc pm an cdv ct) ⟨us, []⟩ = pure (ps.zip us)
section
variable {c : C0} {k : Nat}
theorem DefAt.kn {h : Heap} (X : c.K.In h) (G : h.Ns mainGlobals c.mg) {T : Tab} {x : Str} {st : Stmt} (D : DefAt c.K x st) {N ps : List Str} {b : S} {m : Nat} (S : C8.scC N ps (defScope st) = true) (TO : TabOk c k T) (tr : trS T m ⟨N, defScope st, fun _ => true⟩ (defBody st) = b)
    (hb : BindOk x st ps) (db : (x == ("__debug__" : Str)) = false) : Kn c (k + 1) x (runF ps.length N.length b) := by
  obtain ⟨f, oc, od, an, kV, doc, pm, cdv, ct, sl, a1, a2, a3, a4⟩ := D.ex
  have F : Fun c.K x x st f _ := fun_mk a2 a3 a4
  exact kn_mk F (C8.fnScope_by S) TO tr (PySem.W.mg_of X G a1) (F.binds hb) db
theorem mgs_none {K : PySem.W.Frag} {h : Heap} {mg : Str → Option Value} (X : K.In h) (G : h.Ns mainGlobals mg) (z : ∀ x ∈ blNames, PySem.W.nsIn K mainGlobals x = some none) : ∀ x ∈ blNames, mg x = none := fun x hx => PySem.W.mg_none_of X G (z x hx)
end
theorem bl_all {K : PySem.W.Frag} (z0 : PySem.W.nsIn K mainGlobals "int" = some none) (z1 : PySem.W.nsIn K mainGlobals "abs" = some none) (z2 : PySem.W.nsIn K mainGlobals "len" = some none) (z3 : PySem.W.nsIn K mainGlobals "tuple" = some none) (z4 : PySem.W.nsIn K mainGlobals "max" = some none) (z5 : PySem.W.nsIn K mainGlobals "min" = some none) (z6 : PySem.W.nsIn K mainGlobals "isinstance" = some none) (z7 : PySem.W.nsIn K mainGlobals "dict" = some none) (z8 : PySem.W.nsIn K mainGlobals "list" = some none) (z9 : PySem.W.nsIn K mainGlobals "sum" = some none) (z10 : PySem.W.nsIn K mainGlobals "all" = some none) (z11 : PySem.W.nsIn K mainGlobals "any" = some none) (z12 : PySem.W.nsIn K mainGlobals "bool" = some none) (z13 : PySem.W.nsIn K mainGlobals "str" = some none) (z14 : PySem.W.nsIn K mainGlobals "range" = some none) (z15 : PySem.W.nsIn K mainGlobals "enumerate" = some none) (z16 : PySem.W.nsIn K mainGlobals "zip" = some none) (z17 : PySem.W.nsIn K mainGlobals "sorted" = some none) (z18 : PySem.W.nsIn K mainGlobals "set" = some none) : ∀ x ∈ blNames, PySem.W.nsIn K mainGlobals x = some none := by
  intro x hx
  simp only [blNames, List.mem_cons, List.not_mem_nil, or_false] at hx
  rcases hx with rfl | rfl | rfl | rfl | rfl | rfl | rfl | rfl | rfl | rfl | rfl | rfl | rfl | rfl | rfl | rfl | rfl | rfl | rfl <;> assumption
/-- the law's own def -/
theorem law_mk {P : Program} {w : World} {K : PySem.W.Frag} {h : Heap} {mg : Str → Option Value} {fa : Addr} {k n m : Nat} {st : Stmt} {x : Str} {N : List Str} {b : S} {T : Tab} (X : K.In h) (G : h.Ns mainGlobals mg) (hfa : mg "law" = some (.ref fa)) (D : DefAt K "law" st)
    (S : C8.scC N [x] (defScope st) = true) (tr : trS T m ⟨N, defScope st, fun _ => true⟩ (defBody st) = b) (hb : BindOk "law" st [x]) (TO : ∀ base : Heap, TabOk ⟨P, w, K, mg, base⟩ k T)
    (hF : ∀ ns : List Int, ns.length ≤ n → ∃ st', runF 1 N.length b [.sls ns] [] = some (.bl true, st')) :
    ∃ fd : FuncData, (∀ (s : Shared) (u : Value), BindsTo s fd ⟨[u], []⟩ [(x, u)]) ∧ ∀ base : Heap, K.In base → base.Ns mainGlobals mg → FnOk P w K mg base CX0 (k + 1) fa fd [x] (spLaw n K) := by
  obtain ⟨f, oc, od, an, kV, doc, pm, cdv, ct, sl, a1, a2, a3, a4⟩ := D.ex
  have e := hfa.symm.trans (PySem.W.mg_of X G a1)
  cases e
  refine ⟨_, fun s u => .of_eq (hb kV doc pm an cdv ct [u] rfl), fun base _ _ => ?_⟩
  have F : Fun K "law" "law" st fa _ := fun_mk a2 a3 a4
  exact law_sp (fn_step (c := ⟨P, w, K, mg, base⟩) F (C8.fnScope_by S) (TO base) tr) hF
end Den

/-! DenCl: own classes: attributes, instances made, methods; a module's constants. -/
namespace Den
open PySem PySem.Spec PyProof.Rows L2
/-! ### what they do -/
def insAt (st : Store) (n : Nat) : Option (Str × List (Str × PV)) := match st[n]? with
  | some (.ins C fs) => some (C, fs)
  | _ => none
def fFld (cs : List Str) (f : Str) : Fn := fun vs st => match vs with
  | [.ref n] => (insAt st n).bind fun p => if p.1 ∈ cs then (p.2.lookup f).map fun v => (v, st) else none
  | _ => none
def putFP (f : Str) (v : PV) : List (Str × PV) → List (Str × PV)
  | [] => [(f, v)]
  | (g, x) :: r => if g = f then (g, v) :: r else (g, x) :: putFP f v r
def mSetF (cs : List Str) (f : Str) : Fn := fun vs st => match vs with
  | [v, .ref n] => (insAt st n).bind fun p => if p.1 ∈ cs ∧ p.2.length < 1000 then some (.non, st.set n (.ins p.1 (putFP f v p.2))) else none
  | _ => none
/-- C(..) by its __init__ -/
def mkC (C : Str) (F : Fn) : Fn := fun vs st => (F (.ref st.length :: vs) (st ++ [.ins C []])).bind fun (v, s) => if v = .non then some (.ref st.length, s) else none
def isIn (cs : List Str) (m : Str) : OkF := fun x st => match x with
  | .ref n => match insAt st n with
    | some (C, fs) => decide (C ∈ cs) && (fs.lookup m).isNone
    | none => false
  | _ => false
theorem insAt_of {st : Store} {n : Nat} {p : Str × List (Str × PV)} (h : insAt st n = some p) : st[n]? = some (.ins p.1 p.2) := by
  unfold insAt at h
  split at h
  · cases h; assumption
  · cases h
section
variable {K : PySem.W.Frag} {mg : Str → Option Value} {ι : List Addr} {H : Hp} {st : Store}
theorem RPs.lk {f : Str} : ∀ {xs : List (Str × PV)} {vs : List (Str × V)}, RPs K mg ι H xs vs → (xs.lookup f = none ∧ vs.lookup f = none) ∨ ∃ x v, xs.lookup f = some x ∧ vs.lookup f = some v ∧ RV K mg ι H x v
  | [], vs, h => by simp only [RPs] at h; subst h; exact .inl ⟨rfl, rfl⟩
  | (g, x) :: ys, vs, h => by
    simp only [RPs] at h
    obtain ⟨v, s, rfl, r, t⟩ := h
    simp only [List.lookup_cons]
    cases f == g with
    | true => exact .inr ⟨x, v, rfl, rfl, r⟩
    | false => exact RPs.lk t
theorem RPs.putF {f : Str} {x : PV} {v : V} (q : RV K mg ι H x v) : ∀ {xs : List (Str × PV)} {vs : List (Str × V)}, RPs K mg ι H xs vs → RPs K mg ι H (putFP f x xs) (L2.putF f v vs)
  | [], vs, h => by
    simp only [RPs] at h
    subst h
    simp only [putFP, L2.putF, RPs]
    exact ⟨v, [], rfl, q, rfl⟩
  | (g, y) :: ys, vs, h => by
    simp only [RPs] at h
    obtain ⟨w, s, rfl, r, t⟩ := h
    simp only [putFP, L2.putF]
    split
    · simp only [RPs]; exact ⟨v, s, rfl, q, t⟩
    · simp only [RPs]; exact ⟨w, _, rfl, r, RPs.putF q t⟩
theorem RPs.len {κ : Type} : ∀ {xs : List (κ × PV)} {vs : List (κ × V)}, RPs K mg ι H xs vs → xs.length = vs.length
  | [], vs, h => by simp only [RPs] at h; subst h; rfl
  | y :: ys, vs, h => by
    simp only [RPs] at h
    obtain ⟨v, s, rfl, r, t⟩ := h
    rw [List.length_cons, List.length_cons, RPs.len t]
theorem RS.insAt (R : RS K mg ι st H) {n : Nat} {p : Str × List (Str × PV)} (h : insAt st n = some p) : ∃ a A dx fw, ι[n]? = some a ∧ mg p.1 = some (.ref A) ∧ H a = some (.ins A dx fw) ∧ RPs K mg ι H p.2 fw := by
  obtain ⟨a, ha, A, dx, fw, m, e, r⟩ := R.ob n _ (insAt_of h)
  exact ⟨a, A, dx, fw, ha, m, e, r⟩
end
/-! ### .. soundly -/
section
variable {c : C0} {k : Nat}
/-- the class, if it is there, is a plain one without the attribute f of its own -/
def FldOk (c : C0) (C f : Str) : Prop := ∀ A, c.mg C = some (.ref A) → Cls c.K A ∧ NoAttr c.K A f
theorem at_of {cs : List Str} {f : Str} (hc : ∀ C ∈ cs, FldOk c C f) : AtS c k f (fFld cs f) := fun X O o g pos hb ho => by
  refine PE_imp (pe_fld ho hb) fun σ H Q ⟨ι, env, st, x, st', R, E, e, q⟩ => ?_
  cases h1 : g env st with
  | none => simp [h1] at e
  | some pr =>
    obtain ⟨y, s1⟩ := pr
    simp only [h1, Option.bind_some] at e
    refine ⟨ι, env, st, y, s1, R, E, h1, fun ι1 v H1 l1 R1 r1 => ?_⟩
    unfold fFld at e
    split at e
    · rename_i n ey
      simp only [List.cons.injEq, and_true] at ey
      subst ey
      cases h2 : insAt s1 n with
      | none => simp [h2] at e
      | some p =>
        simp only [h2, Option.bind_some] at e
        split at e
        · rename_i hm
          obtain ⟨a, A, dx, fw, ha, hg, hH, rp⟩ := R1.insAt h2
          rw [O.mg] at hg
          obtain ⟨cl, na⟩ := hc _ hm A hg
          simp only [RV] at r1
          obtain ⟨a', ha', rfl⟩ := r1
          have : a' = a := Option.some.inj (ha'.symm.trans ha)
          subst this
          rcases rp.lk (f := f) with ⟨h3, _⟩ | ⟨z, w, h3, h4, rz⟩
          · rw [h3] at e; cases e
          · rw [h3] at e
            simp only [Option.map_some, Option.some.injEq, Prod.mk.injEq] at e
            obtain ⟨rfl, rfl⟩ := e
            rw [← O.K] at cl na
            exact ⟨a', A, dx, fw, w, rfl, hH, cl, na, h4, q ι1 w H1 l1 R1 rz⟩
        · cases e
    · cases e
theorem sa_of {cs : List Str} {f : Str} (hc : ∀ C ∈ cs, FldOk c C f) : SaS c k f (mSetF cs f) := fun X O o e g h p pos ho he => by
  refine PS_imp (ps_fld ho he sw_attr) fun D σ H q => ?_
  obtain ⟨ι, env, st, r, env', st', R, E, e1, q⟩ := q
  cases h1 : h env st with
  | none => simp [h1] at e1
  | some pr =>
    obtain ⟨v, s1⟩ := pr
    cases h2 : g env s1 with
    | none => simp [h1, h2] at e1
    | some pr =>
      obtain ⟨x, s2⟩ := pr
      simp only [h1, h2, Option.bind_some] at e1
      refine ⟨ι, env, st, v, s1, R, E, h1, fun ι1 w H1 l1 R1 r1 => ?_⟩
      refine ⟨ι1, env, s1, x, s2, R1, E.le l1.ex, h2, fun ι2 u H2 l2 R2 r2 => ?_⟩
      cases h3 : mSetF cs f [v, x] s2 with
      | none => simp [h3] at e1
      | some pr =>
        obtain ⟨z, s3⟩ := pr
        simp only [h3, Option.bind_some, Option.some.injEq, Prod.mk.injEq] at e1
        obtain ⟨rfl, rfl, rfl⟩ := e1
        unfold mSetF at h3
        split at h3
        · rename_i v' n ey
          simp only [List.cons.injEq, and_true] at ey
          obtain ⟨rfl, rfl⟩ := ey
          cases h4 : insAt s2 n with
          | none => simp [h4] at h3
          | some p =>
            simp only [h4, Option.bind_some] at h3
            split at h3
            · rename_i hm
              cases h3
              obtain ⟨a, A, dx, fw, ha, hg, hH, rp⟩ := R2.insAt h4
              have hg' := hg
              rw [O.mg] at hg
              obtain ⟨cl, na⟩ := hc _ hm.1 A hg
              rw [← O.K] at cl na
              simp only [RV] at r2
              obtain ⟨a', ha', rfl⟩ := r2
              have : a' = a := Option.some.inj (ha'.symm.trans ha)
              subst this
              have lu : Le ι2 ι2 H2 (upd H2 a' (.ins A dx (L2.putF f w fw))) := .upd (List.mem_of_getElem? ha) hH trivial
              refine ⟨a', A, dx, fw, rfl, hH, cl, na, by rw [← rp.len]; exact hm.2, ?_⟩
              have R3 : RS X.K X.mg ι2 (s2.set n (.ins p.1 (putFP f v p.2))) (upd H2 a' (.ins A dx (L2.putF f w fw))) := by
                refine R2.set ha lu.ex ⟨A, dx, _, hg', upd_same, ?_⟩
                exact (RPs.putF (r1.le l2.ex) rp).le lu.ex
              exact q ι2 σ _ ((l1.trans l2).trans lu) R3 ((E.le (l1.trans l2).ex).le lu.ex)
            · cases h3
        · cases h3
/-- a class's own function m -/
structure KnM (c : C0) (k : Nat) (C m : Str) (F : Fn) : Prop where
  ok : ∀ A, c.mg C = some (.ref A) → ∃ (f : Addr) (fd : FuncData) (ps : List Str), FnOk c.P c.w c.K c.mg c.base CX0 k f fd ps (spD c.K c.mg F) ∧ Cls c.K A ∧ Meth c.K A m f ∧ Binds c.K fd ps []
theorem meth_eq {X : Cx} {o : Expr} {m : Str} {es : List Expr} {apos cpos : Pos} (mp : MPos X o m es apos cpos) : eval (.Call (.Attribute o m apos) es [] cpos) X.env = (do
      let ov ← eval o X.env
      standAt apos.atName
      let (f, first) ← holding [ov] (getMethod ov m (do return (← importBound o X.env).getD true))
      callWith cpos f first (backTo cpos (starEach es X.env)) (backToKw cpos (keywordEach [] X.env))) := by
  have hform : methodCallForm (es.length + ([] : List Keyword).length) (backTo cpos (starEach es X.env)) (backToKw cpos (keywordEach [] X.env)) = true := by
    have h := mp.few
    unfold methodCallForm
    rw [few_back mp.ns]
    show (true && decide (es.length + 0 + 0 < 30)) = true
    rw [Bool.true_and]
    exact decide_eq_true (by omega)
  have hl := mp.line
  rw [arm_eval_Call, mp.base]
  unfold methodCall
  simp only [hform, calleeOf, methodCallPos, hl, if_true, Bool.not_true, Bool.or_true]
  rfl
theorem PE_any {X : Cx} {α : Type} {e : Expr} {T : α → TE} (h : ∀ a, PE X e (T a)) : PE X e (fun σ H Q => ∃ a, T a σ H Q) := ⟨fun pins s σ H Q I ⟨a, q⟩ => (h a).run pins s σ H Q I q⟩
theorem mt_own {cs : List Str} {m : Str} {F : Fn} {j : Nat} (hj : j ≤ k) (hc : ∀ C ∈ cs, KnM c j C m F) : MtS c k m (isIn cs m) F := fun X O o es f g apos cpos mp ho ha h0 => by
  have key : PE X (.Call (.Attribute o m apos) es [] cpos) (fun σ H Q => ∃ (i : Option {p : Str × Addr // p.1 ∈ cs ∧ c.mg p.1 = some (.ref p.2)}), (match i with
      | some i => tMeth i.1.2 m (spD c.K c.mg F) [] E0 (LE X.K X.mg f) (LA X.K X.mg g) σ H Q
      | none => LE X.K X.mg f σ H fun _ _ => False)) := by
    refine PE_any fun i => ?_
    cases i with
    | none => exact ⟨fun pins s σ H Q I h => PySem.W.methodCall_KW (thn (ho.run pins s σ H _ I h) fun u s1 ⟨x, H1, I1, rx, z⟩ => z.elim) (meth_eq mp)⟩
    | some i =>
      obtain ⟨⟨C, A⟩, hm, hg⟩ := i
      obtain ⟨fa, fd, ps, FO, cl, me, b⟩ := (hc C hm).ok A hg
      obtain ⟨P, w, K, mg, base⟩ := c
      have e1 := O.P
      have e2 := O.w
      have e3 := O.K
      have e4 := O.mg
      have e5 := O.base
      simp only at e1 e2 e3 e4 e5 FO cl me b hg
      subst e1 e2 e3 e4 e5
      cases es with
      | cons e es =>
        have u := mp.ns
        simp only [unsts, Bool.and_eq_true] at u
        exact pe_meth ho cl me FO (O.room.mono hj) b .nil pass0 ha (starEach_cons u.1) (plain_back u.2) (meth_eq mp)
      | nil =>
        refine PE_imp (pe_meth0 (E := E0) ho cl me FO (O.room.mono hj) b .nil pass0 (meth_eq mp)) fun σ H Q q => ?_
        obtain ⟨ι, env, st, x, st', R, E, e, q⟩ := q
        refine ⟨ι, env, st, x, st', R, E, e, fun ι' v H' l' R' r' => ?_⟩
        obtain ⟨a, dx, fs, h1, h2, h3, ι2, env2, st2, xs, st3, R2, E2, e2, q2⟩ := q ι' v H' l' R' r'
        have := h0 rfl _ _ _ e2
        cases this
        exact ⟨a, dx, fs, h1, h2, h3, q2 ι2 [] H' .refl R2 .nil⟩
  refine PE_imp key fun σ H Q hq => ?_
  obtain ⟨ι, env, st, z, st', R, E, e, q⟩ := hq
  unfold fMth at e
  cases h1 : f env st with
  | none => simp [h1] at e
  | some pr =>
    obtain ⟨x, s1⟩ := pr
    simp only [h1, Option.bind_some] at e
    split at e
    · rename_i hok
      cases h2 : g env s1 with
      | none => simp [h2] at e
      | some p =>
        obtain ⟨xs, s2⟩ := p
        simp only [h2, Option.bind_some] at e
        unfold isIn at hok
        split at hok
        · rename_i n
          split at hok
          · rename_i C fs hi
            simp only [Bool.and_eq_true, decide_eq_true_eq, Option.isNone_iff_eq_none] at hok
            by_cases hA : ∃ A, c.mg C = some (.ref A)
            · obtain ⟨A, hA⟩ := hA
              refine ⟨some ⟨(C, A), hok.1, hA⟩, ι, env, st, .ref n, s1, R, E, h1, fun ι1 v H1 l1 R1 r1 => ?_⟩
              obtain ⟨a, A', dx, fw, ha, hg, hH, rp⟩ := R1.insAt hi
              have : A' = A := by
                rw [O.mg] at hg
                have := hg.symm.trans hA
                cases this; rfl
              subst this
              have r1' := r1
              simp only [RV] at r1
              obtain ⟨a', ha', rfl⟩ := r1
              have : a' = a := Option.some.inj (ha'.symm.trans ha)
              subst this
              refine ⟨a', dx, fw, rfl, hH, ?_, ι1, env, s1, xs, s2, R1, E.le l1.ex, h2, fun ι2 vs H2 l2 R2 r2 => ?_⟩
              · rcases rp.lk (f := m) with ⟨_, h4⟩ | ⟨z, w, h3, _, _⟩
                · exact h4
                · rw [hok.2] at h3; cases h3
              · show spD c.K c.mg F (V.ref a' :: (vs ++ [])) H2 Q E0
                rw [List.append_nil]
                refine ⟨ι2, s2, .ref n :: xs, z, st', ?_, ?_, e, fun ι3 w H3 l3 R3 r3 => ?_⟩
                · rw [← O.K, ← O.mg]; exact R2
                · rw [← O.K, ← O.mg]; exact .cons (r1'.le l2.ex) r2
                · rw [← O.K, ← O.mg] at R3 r3
                  exact q ι3 w H3 ((l1.trans l2).trans l3) R3 r3
            · refine ⟨none, ι, env, st, .ref n, s1, R, E, h1, fun ι1 v H1 l1 R1 r1 => ?_⟩
              obtain ⟨a, A', dx, fw, ha, hg, hH, rp⟩ := R1.insAt hi
              rw [O.mg] at hg
              exact hA ⟨A', hg⟩
          · cases hok
        · cases hok
    · cases e
/-- C(..) -/
structure KnC (c : C0) (k : Nat) (C : Str) (F : Fn) : Prop where
  ex : ∃ (A f : Addr) (fd : FuncData) (ps : List Str), FnOk c.P c.w c.K c.mg c.base CX0 k f fd ps (spD c.K c.mg F) ∧ c.mg C = some (.ref A) ∧ Mk c.K A f ∧ Binds c.K fd ps []
  db : (C == ("__debug__" : Str)) = false
theorem le_make {K : PySem.W.Frag} {mg : Str → Option Value} {C : Str} {A : Addr} (hA : mg C = some (.ref A)) {F : Fn} {f : Env → Store → Option (List PV × Store)} {σ : L2.St} {H : Hp} {Q : VK} {E : XK} (h : LE K mg (fun env st => (f env st).bind fun (xs, s1) => mkC C F xs s1) σ H Q) : tMake A (spD K mg F) [] E (LA K mg f) σ H Q := by
  obtain ⟨ι, env, st, z, st', R, E, e, q⟩ := h
  cases h1 : f env st with
  | none => simp [h1] at e
  | some p =>
    obtain ⟨xs, s1⟩ := p
    simp only [h1, Option.bind_some] at e
    refine ⟨ι, env, st, xs, s1, R, E, h1, fun ι1 vs H1 l1 R1 r1 => ?_⟩
    intro x dx nx ndx ne
    unfold mkC at e
    cases h2 : F (.ref s1.length :: xs) (s1 ++ [.ins C []]) with
    | none => simp [h2] at e
    | some p =>
      obtain ⟨v, s2⟩ := p
      simp only [h2, Option.bind_some] at e
      split at e
      · rename_i hv
        subst hv
        cases e
        have n1 : upd H1 dx (.own x) x = none := by rw [upd_ne (Ne.symm ne)]; exact nx
        have la : Le ι1 (ι1 ++ [x]) H1 (upd (upd H1 dx (.own x)) x (.ins A dx [])) := (Le.new (ι := ι1) ndx).trans (.add n1)
        have R2 : RS K mg (ι1 ++ [x]) (s1 ++ [.ins C []]) (upd (upd H1 dx (.own x)) x (.ins A dx [])) := ((R1.new ndx).new n1).take (R1.not_mem nx) ⟨A, dx, [], hA, upd_same, by simp only [RPs]⟩
        have rx : RV K mg (ι1 ++ [x]) (upd (upd H1 dx (.own x)) x (.ins A dx [])) (.ref s1.length) (.ref x) := by
          simp only [RV]
          exact ⟨x, by rw [List.getElem?_append_right (by rw [R1.len]; exact Nat.le_refl _), R1.len, Nat.sub_self]; rfl, rfl⟩
        show spD K mg F (.ref x :: (vs ++ [])) _ _ _
        rw [List.append_nil]
        refine ⟨ι1 ++ [x], s1 ++ [.ins C []], .ref s1.length :: xs, .non, st', R2, .cons rx (r1.le la.ex), h2, fun ι2 v H2 l2 R3 r2 => ⟨by simpa only [RV] using r2, ?_⟩⟩
        exact q ι2 _ H2 ((l1.trans la).trans l2) R3 (rx.le l2.ex)
      · cases e
theorem KnC.fns {C : Str} {F : Fn} {j : Nat} (h : KnC c j C F) (hj : j + 1 ≤ k) : FnS c k C (mkC C F) := fun X O hg es f p pos u ha h0 => by
  obtain ⟨⟨A, fa, fd, ps, FO, hm, M, b⟩, db⟩ := h
  obtain ⟨P, w, K, mg, base⟩ := c
  have e1 := O.P
  have e2 := O.w
  have e3 := O.K
  have e4 := O.mg
  have e5 := O.base
  simp only at e1 e2 e3 e4 e5 FO hm M b
  subst e1 e2 e3 e4 e5
  cases es with
  | cons e es =>
    simp only [unsts, Bool.and_eq_true] at u
    exact PE_imp (pe_make M FO (O.room.mono hj) hg hm b .nil pass0 ha db (starEach_cons u.1) (plain_back u.2)) fun _ _ _ q => le_make (E := E0) hm q
  | nil =>
    refine PE_imp (pe_make0 (p := p) (pos := pos) (E := E0) M FO (O.room.mono hj) hg hm b .nil pass0 db) fun σ H Q q => ?_
    obtain ⟨ι, env, st, z, st', R, E, e, q⟩ := q
    cases h1 : f env st with
    | none => simp [h1] at e
    | some p1 =>
      have := h0 rfl _ _ _ h1
      subst this
      have q2 := le_make (E := E0) hm (f := fun _ st => some ([], st)) (σ := σ) (H := H) (Q := Q) ⟨ι, env, st, z, st', R, E, by simpa [h1] using e, q⟩
      obtain ⟨ι2, env2, st2, xs, st3, R2, E2, e2, q3⟩ := q2
      cases e2
      exact q3 ι2 [] H .refl R2 .nil
/-! ### the table -/
theorem lookup_add {α : Type} {x y : Str} {a b : α} {l : List (Str × α)} (h : ((x, a) :: l).lookup y = some b) : (y = x ∧ b = a) ∨ l.lookup y = some b := by
  rw [List.lookup_cons] at h
  cases hb : y == x with
  | true => rw [hb] at h; cases h; exact .inl ⟨by simpa using hb, rfl⟩
  | false => rw [hb] at h; exact .inr h
def Tab.addC (T : Tab) (C : Str) (F : Fn) : Tab := { T with fn := (C, mkC C F) :: T.fn }
def Tab.addM (T : Tab) (m : Str) (cs : List Str) (F : Fn) : Tab := { T with mt := (m, isIn cs m, F) :: T.mt }
def Tab.addA (T : Tab) (f : Str) (cs : List Str) : Tab := { T with at_ := (f, fFld cs f) :: T.at_, sa := (f, mSetF cs f) :: T.sa }
def Tab.addV (T : Tab) (x : Str) (v : PV) : Tab := { T with va := (x, v) :: T.va }
theorem TabOk.addC {T : Tab} (h : TabOk c k T) {C : Str} {F : Fn} {j : Nat} (hx : KnC c j C F) (hj : j + 1 ≤ k) : TabOk c k (T.addC C F) := by
  refine ⟨fun y G e => ?_, h.cn, h.mp, h.fl, h.va, h.mt, h.bl, h.at_, h.sa⟩
  rcases lookup_add (a := mkC C F) e with z | e
  · obtain ⟨rfl, rfl⟩ := z
    exact hx.fns hj
  · exact h.fn y G e
theorem TabOk.addM {T : Tab} (h : TabOk c k T) {m : Str} {cs : List Str} {F : Fn} {j : Nat} (hx : ∀ C ∈ cs, KnM c j C m F) (hj : j ≤ k) : TabOk c k (T.addM m cs F) := by
  refine ⟨h.fn, h.cn, h.mp, h.fl, h.va, fun y ok G e => ?_, h.bl, h.at_, h.sa⟩
  rcases lookup_add (a := (isIn cs m, F)) e with z | e
  · obtain ⟨rfl, e⟩ := z
    cases e
    exact mt_own hj hx
  · exact h.mt y ok G e
theorem TabOk.addA {T : Tab} (h : TabOk c k T) {f : Str} {cs : List Str} (hx : ∀ C ∈ cs, FldOk c C f) : TabOk c k (T.addA f cs) := by
  refine ⟨h.fn, h.cn, h.mp, h.fl, h.va, h.mt, h.bl, fun y G e => ?_, fun y G e => ?_⟩
  · rcases lookup_add (a := fFld cs f) e with z | e
    · obtain ⟨rfl, rfl⟩ := z
      exact at_of hx
    · exact h.at_ y G e
  · rcases lookup_add (a := mSetF cs f) e with z | e
    · obtain ⟨rfl, rfl⟩ := z
      exact sa_of hx
    · exact h.sa y G e
theorem va_int {x : Str} {i : Int} {t : Nat} (hm : c.mg x = some (.int i t)) (hd : (x == ("__debug__" : Str)) = false) : VaS c k x (.int i) := fun X O hg p => by
  refine je_mono (je_con (u := .int i) (v := .int i) (pe_glob hg (by rw [O.mg]; exact hm) ⟨t, rfl⟩ hd) fun ι H => by simp only [RV]) fun env st r e => e
theorem TabOk.addV {T : Tab} (h : TabOk c k T) {x : Str} {v : PV} (hx : VaS c k x v) : TabOk c k (T.addV x v) := by
  refine ⟨h.fn, h.cn, h.mp, h.fl, fun y G e => ?_, h.mt, h.bl, h.at_, h.sa⟩
  rcases lookup_add (a := v) e with z | e
  · obtain ⟨rfl, rfl⟩ := z
    exact hx
  · exact h.va y G e
end
/-! ### what the top has written -/
inductive FAll (K : PySem.W.Frag) (A : Addr) : List Str → Prop
  | nil : FAll K A []
  | cons {f : Str} {fs : List Str} : PySem.W.findIn K (.ref A) f = some none → FAll K A fs → FAll K A (f :: fs)
theorem FAll.of {K : PySem.W.Frag} {A : Addr} : ∀ {fs : List Str}, FAll K A fs → ∀ f ∈ fs, NoAttr K A f
  | _, .nil, f, h => by simp at h
  | _, .cons h t, f, hm => by
    rcases List.mem_cons.mp hm with rfl | hm
    · exact h
    · exact t.of f hm
/-- a class: of plain attributes, none of its own by these names; or it is not there -/
structure ClsAt (K : PySem.W.Frag) (C : Str) (fs : List Str) : Prop where
  ex : PySem.W.nsIn K mainGlobals C = some none ∨ ∃ A, PySem.W.nsIn K mainGlobals C = some (some (.ref A)) ∧ Cls K A ∧ FAll K A fs
theorem ClsAt.abs {K : PySem.W.Frag} {C : Str} {fs : List Str} (h : PySem.W.nsIn K mainGlobals C = some none) : ClsAt K C fs := ⟨.inl h⟩
theorem ClsAt.mk' {K : PySem.W.Frag} {C : Str} {fs : List Str} {A : Addr} (h : PySem.W.nsIn K mainGlobals C = some (some (.ref A))) (pg : PySem.W.plainGet K A Str.empty = true) (hd : PySem.W.hasDictIn K A = true) (po : PySem.W.plainOver K A = true)
    (sa : PySem.W.findIn K (.ref A) "__setattr__" = some (some (.builtin "object.__setattr__"))) (f : FAll K A fs) : ClsAt K C fs := ⟨.inr ⟨A, h, ⟨pg, hd, po, sa⟩, f⟩⟩
/-- a def within a class, as it stands behind the top; init: by __init__ -/
structure MthAt (K : PySem.W.Frag) (C m qual : Str) (st : Stmt) : Prop where
  ex : ∃ (A f : Addr) (oc : Value) (od an : Option Addr) (kV doc pm cdv ct : Value) (sl : Array (Option Value)), PySem.W.nsIn K mainGlobals C = some (some (.ref A)) ∧ PySem.W.findIn K (.ref A) m = some (some (.ref f)) ∧ PySem.W.isFn K (.ref f) = true ∧
    K.lookup f = some ⟨oc, od, .func (PySem.W.fnOf m qual (defArgs st) (defBody st) (defScope st) .none kV doc pm an cdv ct), sl⟩ ∧ PySem.W.codeIn K cdv qual = true ∧ PySem.W.keepIn K (.ref f) = true
theorem MthAt.mk' {K : PySem.W.Frag} {C m qual : Str} {st : Stmt} {A f : Addr} {oc : Value} {od an : Option Addr} {kV doc pm cdv ct : Value} {sl : Array (Option Value)} (a : PySem.W.nsIn K mainGlobals C = some (some (.ref A))) (b : PySem.W.findIn K (.ref A) m = some (some (.ref f))) (i : PySem.W.isFn K (.ref f) = true)
    (l : K.lookup f = some ⟨oc, od, .func (PySem.W.fnOf m qual (defArgs st) (defBody st) (defScope st) .none kV doc pm an cdv ct), sl⟩) (cd : PySem.W.codeIn K cdv qual = true) (kp : PySem.W.keepIn K (.ref f) = true) : MthAt K C m qual st := ⟨⟨A, f, oc, od, an, kV, doc, pm, cdv, ct, sl, a, b, i, l, cd, kp⟩⟩
structure MkAt (K : PySem.W.Frag) (C : Str) : Prop where
  ex : ∃ A, PySem.W.nsIn K mainGlobals C = some (some (.ref A)) ∧ PySem.W.makesIn K A = true ∧ PySem.W.keepIn K (.ref A) = true
theorem MkAt.mk' {K : PySem.W.Frag} {C : Str} {A : Addr} (a : PySem.W.nsIn K mainGlobals C = some (some (.ref A))) (m : PySem.W.makesIn K A = true) (k : PySem.W.keepIn K (.ref A) = true) : MkAt K C := ⟨⟨A, a, m, k⟩⟩
structure IntAt (K : PySem.W.Frag) (x : Str) (i : Int) : Prop where
  ex : ∃ t, PySem.W.nsIn K mainGlobals x = some (some (.int i t))
theorem IntAt.mk' {K : PySem.W.Frag} {x : Str} {i : Int} {t : Nat} (a : PySem.W.nsIn K mainGlobals x = some (some (.int i t))) : IntAt K x i := ⟨⟨t, a⟩⟩
def BindOkM (m qual : Str) (st : Stmt) (ps : List Str) : Prop := ∀ (kV doc pm : Value) (an : Option Addr) (cdv ct : Value) (us : List Value), us.length = ps.length → bindArgs (PySem.W.fnOf m qual (defArgs st) (defBody st) (defScope st) .none kV doc pm an cdv ct) ⟨us, []⟩ = pure (ps.zip us)
section
variable {c : C0} {k : Nat} {h : Heap}
theorem ClsAt.fld (X : c.K.In h) (G : h.Ns mainGlobals c.mg) {C : Str} {fs : List Str} (D : ClsAt c.K C fs) {f : Str} (hf : f ∈ fs) : FldOk c C f := fun A hA => by
  rcases D.ex with z | ⟨A', a, cl, fa⟩
  · rw [PySem.W.mg_none_of X G z] at hA; cases hA
  · rw [PySem.W.mg_of X G a] at hA
    cases hA
    exact ⟨cl, fa.of f hf⟩
theorem ClsAt.absent (X : c.K.In h) (G : h.Ns mainGlobals c.mg) {C m : Str} {F : Fn} (z : PySem.W.nsIn c.K mainGlobals C = some none) : KnM c k C m F := ⟨fun A hA => by rw [PySem.W.mg_none_of X G z] at hA; cases hA⟩
theorem MthAt.ok (X : c.K.In h) (G : h.Ns mainGlobals c.mg) {T : Tab} {C m qual : Str} {st : Stmt} (D : MthAt c.K C m qual st) {N ps : List Str} {b : S} {n : Nat} (S : C8.scC N ps (defScope st) = true) (TO : TabOk c k T) (tr : trS T n ⟨N, defScope st, fun _ => true⟩ (defBody st) = b)
    (hb : BindOkM m qual st ps) : ∃ (A f : Addr) (fd : FuncData), FnOk c.P c.w c.K c.mg c.base CX0 (k + 1) f fd ps (spD c.K c.mg (runF ps.length N.length b)) ∧ c.mg C = some (.ref A) ∧ Meth c.K A m f ∧ Binds c.K fd ps [] := by
  obtain ⟨A, f, oc, od, an, kV, doc, pm, cdv, ct, sl, a1, a2, a3, a4, a5, a6⟩ := D.ex
  have F : Fun c.K m qual st f _ := fun_mk a4 a5 a6
  exact ⟨A, f, _, fn_step F (C8.fnScope_by S) TO tr, PySem.W.mg_of X G a1, ⟨a2, a3, a6⟩, F.binds hb⟩
theorem MthAt.knm (X : c.K.In h) (G : h.Ns mainGlobals c.mg) {T : Tab} {C m qual : Str} {st : Stmt} (D : MthAt c.K C m qual st) {fs : List Str} (Cl : ClsAt c.K C fs) {N ps : List Str} {b : S} {n : Nat} (S : C8.scC N ps (defScope st) = true) (TO : TabOk c k T) (tr : trS T n ⟨N, defScope st, fun _ => true⟩ (defBody st) = b)
    (hb : BindOkM m qual st ps) : KnM c (k + 1) C m (runF ps.length N.length b) := ⟨fun A hA => by
  obtain ⟨A', f, fd, FO, hA', me, bi⟩ := D.ok X G S TO tr hb
  rw [hA] at hA'
  cases hA'
  refine ⟨f, fd, ps, FO, ?_, me, bi⟩
  rcases Cl.ex with z | ⟨A', a, cl, fa⟩
  · rw [PySem.W.mg_none_of X G z] at hA; cases hA
  · rw [PySem.W.mg_of X G a] at hA
    cases hA
    exact cl⟩
theorem MthAt.knc (X : c.K.In h) (G : h.Ns mainGlobals c.mg) {T : Tab} {C qual : Str} {st : Stmt} (D : MthAt c.K C "__init__" qual st) (Mk' : MkAt c.K C) {N ps : List Str} {b : S} {n : Nat} (S : C8.scC N ps (defScope st) = true) (TO : TabOk c k T) (tr : trS T n ⟨N, defScope st, fun _ => true⟩ (defBody st) = b)
    (hb : BindOkM "__init__" qual st ps) (db : (C == ("__debug__" : Str)) = false) : KnC c (k + 1) C (runF ps.length N.length b) := by
  obtain ⟨A, f, fd, FO, hA, me, bi⟩ := D.ok X G S TO tr hb
  obtain ⟨A', a, m, kp⟩ := Mk'.ex
  have e := (PySem.W.mg_of X G a).symm.trans hA
  cases e
  exact ⟨⟨A, f, fd, ps, FO, hA, ⟨m, me.at_, me.fn, kp⟩, bi⟩, db⟩
theorem IntAt.va (X : c.K.In h) (G : h.Ns mainGlobals c.mg) {x : Str} {i : Int} (D : IntAt c.K x i) (hd : (x == ("__debug__" : Str)) = false) : VaS c k x (.int i) := by
  obtain ⟨t, a⟩ := D.ex
  exact va_int (PySem.W.mg_of X G a) hd
end
end Den

/-! VcA: what trees do, read backwards: plain Lean, no program in sight. -/
namespace Den
open PySem L2
def W {α : Type} (o : Option (α × Store)) (P : α → Store → Prop) : Prop := match o with
  | some (v, s) => P v s
  | none => False
theorem W.some {α : Type} {o : Option (α × Store)} {P : α → Store → Prop} (h : W o P) : ∃ v s, o = some (v, s) ∧ P v s := by
  unfold W at h
  split at h
  · exact ⟨_, _, rfl, h⟩
  · exact h.elim
theorem W.mono {α : Type} {o : Option (α × Store)} {P Q : α → Store → Prop} (h : W o P) (m : ∀ v s, P v s → Q v s) : W o Q := by
  obtain ⟨v, s, rfl, p⟩ := h.some
  exact m v s p
@[simp] theorem W_some {α : Type} {v : α} {s : Store} {P : α → Store → Prop} : W (Option.some (v, s)) P = P v s := rfl
@[simp] theorem W_none {α : Type} {P : α → Store → Prop} : W (none : Option (α × Store)) P = False := rfl
theorem W_bind {α β : Type} {o : Option (α × Store)} {f : α × Store → Option (β × Store)} {P : β → Store → Prop} : W (o.bind f) P = W o fun v s => W (f (v, s)) P := by
  cases o with
  | none => rfl
  | some p => rfl
def Wo {α : Type} (o : Option α) (P : α → Prop) : Prop := match o with
  | some a => P a
  | none => False
theorem Wo_of {α : Type} {o : Option α} {P : α → Prop} {a : α} (h : o = Option.some a) (p : P a) : Wo o P := by rw [h]; exact p
theorem W_of {α : Type} {o : Option (α × Store)} {P : α → Store → Prop} {a : α} {s : Store} (h : o = Option.some (a, s)) (p : P a s) : W o P := by rw [h]; exact p
abbrev wE (a : E) (env : Env) (st : Store) (P : PV → Store → Prop) : Prop := W (dE a env st) P
abbrev wEs (a : Es) (env : Env) (st : Store) (P : List PV → Store → Prop) : Prop := W (dEs a env st) P
abbrev wL (a : Lx) (env : Env) (st : Store) (P : List PV → Store → Prop) : Prop := W (dL a env st) P
abbrev wI (a : It) (env : Env) (st : Store) (P : Src → Store → Prop) : Prop := W (dI a env st) P
def wB (o : Option (PV × Store)) (P : Bool → Store → Prop) : Prop := W (toB o) P
@[simp] theorem wB_some {b : Bool} {s : Store} {P : Bool → Store → Prop} : wB (Option.some (.bl b, s)) P = P b s := rfl
/-- of a statement -/
def wF (o : Option (Flow × Env × Store)) (P : Flow → Env → Store → Prop) : Prop := match o with
  | some (f, e, s) => P f e s
  | none => False
theorem wF.some {o : Option (Flow × Env × Store)} {P : Flow → Env → Store → Prop} (h : wF o P) : ∃ f e s, o = some (f, e, s) ∧ P f e s := by
  unfold wF at h
  split at h
  · exact ⟨_, _, _, rfl, h⟩
  · exact h.elim
theorem wF.mono {o : Option (Flow × Env × Store)} {P Q : Flow → Env → Store → Prop} (h : wF o P) (m : ∀ f e s, P f e s → Q f e s) : wF o Q := by
  obtain ⟨f, e, s, rfl, p⟩ := h.some
  exact m f e s p
@[simp] theorem wF_some {f : Flow} {e : Env} {s : Store} {P : Flow → Env → Store → Prop} : wF (Option.some (f, e, s)) P = P f e s := rfl
@[simp] theorem wF_none {P : Flow → Env → Store → Prop} : wF none P = False := rfl
abbrev wS (a : S) (env : Env) (st : Store) (P : Flow → Env → Store → Prop) : Prop := wF (dS a env st) P
/-! ### expressions -/
@[simp] theorem w_con {v : PV} {env : Env} {st : Store} {P : PV → Store → Prop} : wE (.con v) env st P = P v st := by simp [wE, dE]
@[simp] theorem w_loc {i : Nat} {env : Env} {st : Store} {P : PV → Store → Prop} : wE (.loc i) env st P = (match env[i]? with | some (some v) => P v st | _ => False) := by
  simp only [wE, dE]
  cases env[i]? with
  | none => rfl
  | some o => cases o <;> rfl
@[simp] theorem w_app {F : Fn} {es : Es} {env : Env} {st : Store} {P : PV → Store → Prop} : wE (.app F es) env st P = wEs es env st fun vs s => W (F vs s) P := by simp only [wE, wEs, dE, W_bind]
@[simp] theorem w_mth {ok : PV → Store → Bool} {F : Fn} {o : E} {es : Es} {env : Env} {st : Store} {P : PV → Store → Prop} : wE (.mth ok F o es) env st P = wE o env st fun x s1 => if ok x s1 = true then wEs es env s1 fun xs s2 => W (F (x :: xs) s2) P else False := by
  simp only [wE, wEs, dE, W_bind]
  congr 1
  funext x s1
  split <;> simp [W_bind]
@[simp] theorem w_nil {env : Env} {st : Store} {P : List PV → Store → Prop} : wEs .nil env st P = P [] st := by simp [wEs, dEs]
@[simp] theorem w_cons {e : E} {es : Es} {env : Env} {st : Store} {P : List PV → Store → Prop} : wEs (.cons e es) env st P = wE e env st fun v s1 => wEs es env s1 fun vs s2 => P (v :: vs) s2 := by simp only [wE, wEs, dEs, W_bind, W_some]
def blK (P : Bool → Store → Prop) (v : PV) (s : Store) : Prop := match v with
  | .bl b => P b s
  | _ => False
theorem bk_bl {P : Bool → Store → Prop} {b : Bool} {s : Store} (h : P b s) : blK P (.bl b) s := h
theorem wB_W {o : Option (PV × Store)} {P : Bool → Store → Prop} : wB o P = W o fun v s => blK P v s := by
  cases o with
  | none => rfl
  | some p =>
    obtain ⟨v, s⟩ := p
    cases v <;> rfl
theorem wB_bind {α : Type} {o : Option (PV × Store)} {f : Bool × Store → Option (α × Store)} {P : α → Store → Prop} : W ((toB o).bind f) P = wB o fun b s => W (f (b, s)) P := W_bind
@[simp] theorem w_and {a b : E} {env : Env} {st : Store} {P : PV → Store → Prop} : wE (.and a b) env st P = wB (dE a env st) fun t s => if t = true then wE b env s P else P (.bl false) s := by
  simp only [wE, dE, wB_bind]
  congr 1
  funext t s
  cases t <;> rfl
@[simp] theorem w_or {a b : E} {env : Env} {st : Store} {P : PV → Store → Prop} : wE (.or a b) env st P = wB (dE a env st) fun t s => if t = true then P (.bl true) s else wE b env s P := by
  simp only [wE, dE, wB_bind]
  congr 1
  funext t s
  cases t <;> rfl
@[simp] theorem w_ite {c a b : E} {env : Env} {st : Store} {P : PV → Store → Prop} : wE (.ite c a b) env st P = wB (dE c env st) fun t s => if t = true then wE a env s P else wE b env s P := by
  simp only [wE, dE, wB_bind]
  congr 1
  funext t s
  cases t <;> rfl
@[simp] theorem w_chn {F G : Fn} {a b c : E} {env : Env} {st : Store} {P : PV → Store → Prop} : wE (.chn F G a b c) env st P = wE a env st fun x s1 => wE b env s1 fun y s2 => wB (F [x, y] s2) fun t s3 => if t = true then wE c env s3 fun z s4 => W (G [y, z] s4) P else P (.bl false) s3 := by
  simp only [wE, dE, W_bind, wB_bind]
  congr 1
  funext x s1
  congr 1
  funext y s2
  congr 1
  funext t s
  cases t
  · rfl
  · simp [W_bind]
@[simp] theorem w_ofl {G : Gn} {l : Lx} {env : Env} {st : Store} {P : PV → Store → Prop} : wE (.ofl G l) env st P = wL l env st fun xs s => W (G xs s) P := by simp only [wE, wL, dE, W_bind]
@[simp] theorem w_ixl {l : Lx} {i : E} {env : Env} {st : Store} {P : PV → Store → Prop} : wE (.ixl l i) env st P = wL l env st fun xs s => wE i env s fun y s2 => Wo (gIx xs y) fun v => P v s2 := by
  simp only [wE, wL, dE, W_bind]
  congr 1
  funext xs s
  congr 1
  funext y s2
  cases gIx xs y <;> rfl
@[simp] theorem w_dsp {es : Es} {env : Env} {st : Store} {P : List PV → Store → Prop} : wL (.dsp es) env st P = wEs es env st P := by simp only [wL, wEs, dL]
@[simp] theorem w_lapp {F : Fl} {es : Es} {env : Env} {st : Store} {P : List PV → Store → Prop} : wL (.app F es) env st P = wEs es env st fun vs s => W (F vs s) P := by simp only [wL, wEs, dL, W_bind]
@[simp] theorem w_ival {e : E} {env : Env} {st : Store} {P : Src → Store → Prop} : wI (.val e) env st P = wE e env st fun v s => Wo (srcOf v s) fun c => P c s := by
  simp only [wI, wE, dI, W_bind]
  congr 1
  funext v s
  cases srcOf v s <;> rfl
@[simp] theorem w_irng {es : Es} {env : Env} {st : Store} {P : Src → Store → Prop} : wI (.rng es) env st P = wEs es env st fun vs s => Wo (srcRng vs) fun c => P c s := by
  simp only [wI, wEs, dI, W_bind]
  congr 1
  funext v s
  cases srcRng v <;> rfl
@[simp] theorem w_ienu {e : E} {env : Env} {st : Store} {P : Src → Store → Prop} : wI (.enu e) env st P = wE e env st fun v s => Wo (seqOf v s) fun p => P ⟨enumI 0 p.1, p.2⟩ s := by
  simp only [wI, wE, dI, W_bind]
  congr 1
  funext v s
  cases seqOf v s <;> rfl
@[simp] theorem w_iofl {l : Lx} {env : Env} {st : Store} {P : Src → Store → Prop} : wI (.ofl l) env st P = wL l env st fun xs s => P ⟨xs, []⟩ s := by simp only [wI, wL, dI, W_bind, W_some]
/-! ### statements -/
@[simp] theorem w_skip {env : Env} {st : Store} {P : Flow → Env → Store → Prop} : wS .skip env st P = P .nx env st := by simp [wS, dS]
@[simp] theorem w_brk {env : Env} {st : Store} {P : Flow → Env → Store → Prop} : wS .brk env st P = P .brk env st := by simp [wS, dS]
@[simp] theorem w_cont {env : Env} {st : Store} {P : Flow → Env → Store → Prop} : wS .cont env st P = P .cont env st := by simp [wS, dS]
@[simp] theorem w_dead {env : Env} {st : Store} {P : Flow → Env → Store → Prop} : wS .dead env st P = False := by simp [wS, dS]
def seqK (b : S) (P : Flow → Env → Store → Prop) (f : Flow) (e : Env) (s : Store) : Prop := match f with
  | .nx => wS b e s P
  | f => P f e s
theorem sk_nx {b : S} {P : Flow → Env → Store → Prop} {e : Env} {s : Store} (h : wS b e s P) : seqK b P .nx e s := h
theorem sk_ret {b : S} {P : Flow → Env → Store → Prop} {v : PV} {e : Env} {s : Store} (h : P (.ret v) e s) : seqK b P (.ret v) e s := h
theorem sk_brk {b : S} {P : Flow → Env → Store → Prop} {e : Env} {s : Store} (h : P .brk e s) : seqK b P .brk e s := h
theorem sk_cont {b : S} {P : Flow → Env → Store → Prop} {e : Env} {s : Store} (h : P .cont e s) : seqK b P .cont e s := h
@[simp] theorem w_seq {a b : S} {env : Env} {st : Store} {P : Flow → Env → Store → Prop} : wS (.seq a b) env st P = wS a env st fun f e s => seqK b P f e s := by
  simp only [wS, dS]
  cases dS a env st with
  | none => rfl
  | some p =>
    obtain ⟨f, e, s⟩ := p
    cases f <;> rfl
theorem wF_bind {α : Type} {o : Option (α × Store)} {f : α × Store → Option (Flow × Env × Store)} {P : Flow → Env → Store → Prop} : wF (o.bind f) P = W o fun v s => wF (f (v, s)) P := by
  cases o with
  | none => rfl
  | some p => rfl
theorem wF_bindB {o : Option (PV × Store)} {f : Bool × Store → Option (Flow × Env × Store)} {P : Flow → Env → Store → Prop} : wF ((toB o).bind f) P = wB o fun v s => wF (f (v, s)) P := wF_bind
@[simp] theorem w_set {i : Nat} {e : E} {env : Env} {st : Store} {P : Flow → Env → Store → Prop} : wS (.set i e) env st P = wE e env st fun v s => P .nx (env.set i (some v)) s := by simp only [wS, wE, dS, wF_bind, wF_some]
@[simp] theorem w_ex {e : E} {env : Env} {st : Store} {P : Flow → Env → Store → Prop} : wS (.ex e) env st P = wE e env st fun v s => P .nx env s := by simp only [wS, wE, dS, wF_bind, wF_some]
@[simp] theorem w_ret {e : E} {env : Env} {st : Store} {P : Flow → Env → Store → Prop} : wS (.ret e) env st P = wE e env st fun v s => P (.ret v) env s := by simp only [wS, wE, dS, wF_bind, wF_some]
@[simp] theorem w_site {c : E} {a b : S} {env : Env} {st : Store} {P : Flow → Env → Store → Prop} : wS (.ite c a b) env st P = wB (dE c env st) fun t s => if t = true then wS a env s P else wS b env s P := by
  simp only [wS, dS, wF_bindB]
  congr 1
  funext t s
  cases t <;> rfl
@[simp] theorem w_asgn {i : Nat} {e : E} {env : Env} {st : Store} {P : Flow → Env → Store → Prop} : wS (.asg (.nm i) e) env st P = wE e env st fun v s => P .nx (env.set i (some v)) s := by simp only [wS, wE, dS, dT1, wF_bind, wF_some, Option.bind_some]
@[simp] theorem w_asgs {o i e : E} {env : Env} {st : Store} {P : Flow → Env → Store → Prop} : wS (.asg (.sub o i) e) env st P = wE e env st fun v s1 => wE o env s1 fun x s2 => wE i env s2 fun y s3 => Wo (setAt x y v s3) fun s4 => P .nx env s4 := by
  simp only [wS, wE, dS, dT1, wF_bind, Option.bind_assoc]
  congr 1
  funext v s1
  congr 1
  funext x s2
  congr 1
  funext y s3
  cases setAt x y v s3 <;> rfl
def wT1s (ts : List T1) (vs : List PV) (env : Env) (st : Store) (P : Env → Store → Prop) : Prop := W (dT1s ts vs env st) P
@[simp] theorem w_tnil {env : Env} {st : Store} {P : Env → Store → Prop} : wT1s [] [] env st P = P env st := by simp [wT1s, dT1s]
@[simp] theorem w_tnm {i : Nat} {ts : List T1} {v : PV} {vs : List PV} {env : Env} {st : Store} {P : Env → Store → Prop} : wT1s (.nm i :: ts) (v :: vs) env st P = wT1s ts vs (env.set i (some v)) st P := by simp only [wT1s, dT1s, dT1, Option.bind_some]
@[simp] theorem w_tsub {o i : E} {ts : List T1} {v : PV} {vs : List PV} {env : Env} {st : Store} {P : Env → Store → Prop} : wT1s (.sub o i :: ts) (v :: vs) env st P = wE o env st fun x s2 => wE i env s2 fun y s3 => Wo (setAt x y v s3) fun s4 => wT1s ts vs env s4 P := by
  simp only [wT1s, wE, dT1s, dT1, W_bind, Option.bind_assoc]
  congr 1
  funext x s2
  congr 1
  funext y s3
  cases setAt x y v s3 <;> rfl
def tupK (ts : List T1) (env : Env) (P : Flow → Env → Store → Prop) (v : PV) (s : Store) : Prop := match v with
  | .tup vs => wT1s ts vs env s fun e2 s2 => P .nx e2 s2
  | _ => False
theorem tk_tup {ts : List T1} {env : Env} {P : Flow → Env → Store → Prop} {vs : List PV} {s : Store} (h : wT1s ts vs env s fun e2 s2 => P .nx e2 s2) : tupK ts env P (.tup vs) s := h
@[simp] theorem w_asgT {ts : List T1} {e : E} {env : Env} {st : Store} {P : Flow → Env → Store → Prop} : wS (.asgT ts e) env st P = wE e env st fun v s1 => tupK ts env P v s1 := by
  simp only [wS, wE, dS, wF_bind]
  congr 1
  funext v s1
  cases v <;> first | rfl | skip
  simp only [wF_bind, wF_some, wT1s, tupK]
/-! ### loops by an invariant -/
theorem w_for {t : It} {g : Tg} {b : S} {env : Env} {st : Store} {P : Flow → Env → Store → Prop} : wS (.for t g b) env st P = wI t env (setLk true st (lkOf t env st)) fun src s1 => wF (forL (fun e x => bindT g e x) (okG src.gd) (fun e s => dS b e s) src.xs env s1) fun f e2 s2 => P f e2 (setLk false s2 (lkOf t env st)) := by
  simp only [wS, wI, dS, wF_bind]
  congr 1
  funext src s1
  cases forL (fun e x => bindT g e x) (okG src.gd) (fun e s => dS b e s) src.xs env s1 with
  | none => rfl
  | some p => rfl
theorem for_inv {bind : Env → PV → Option Env} {ok : Store → Bool} {body : Env → Store → Option (Flow × Env × Store)} {P : Flow → Env → Store → Prop} (I : Nat → Env → Store → Prop) :
    ∀ {xs : List PV} {k n : Nat} {env : Env} {st : Store}, k + xs.length = n → I k env st → (∀ i x e s, xs[i]? = some x → I (k + i) e s → ok s = true ∧ ∃ e1, bind e x = some e1 ∧ wF (body e1 s) fun f e2 s2 => match f with
      | .nx => I (k + i + 1) e2 s2 | .cont => I (k + i + 1) e2 s2 | .brk => P .nx e2 s2 | .ret v => P (.ret v) e2 s2) → (∀ e s, I n e s → ok s = true ∧ P .nx e s) → wF (forL bind ok body xs env st) P
  | [], k, n, env, st, hn, h, _, hd => by
    have : k = n := by simpa using hn
    subst this
    obtain ⟨a, b⟩ := hd env st h
    unfold forL
    rw [if_pos a]
    exact b
  | x :: xs, k, n, env, st, hn, h, hs, hd => by
    obtain ⟨a, e1, he, hw⟩ := hs 0 x env st rfl h
    unfold forL
    rw [if_pos a, he, Option.bind_some]
    obtain ⟨f, e2, s2, hb, q⟩ := hw.some
    rw [hb, Option.bind_some]
    have go : I (k + 0 + 1) e2 s2 → wF (forL bind ok body xs e2 s2) P := fun q => for_inv I (k := k + 1) (n := n) (by simp at hn ⊢; omega) q (fun i y e s hy hi => by
      have e0 : k + 1 + i = k + (i + 1) := by omega
      rw [e0] at hi ⊢
      exact hs (i + 1) y e s (by simpa using hy) hi) hd
    cases f with
    | nx => exact go q
    | cont => exact go q
    | brk => exact q
    | ret v => exact q
theorem w_whl {c : E} {b : S} {env : Env} {st : Store} {P : Flow → Env → Store → Prop} (I : Nat → Env → Store → Prop) {n : Nat} (hn : n < fuel) (h : I n env st)
    (hs : ∀ m e s, m ≤ n → I m e s → wB (dE c e s) fun t s1 => if t = true then wS b e s1 fun f e2 s2 => match f with | .nx => ∃ m', m' < m ∧ I m' e2 s2 | .cont => ∃ m', m' < m ∧ I m' e2 s2 | .brk => P .nx e2 s2 | .ret v => P (.ret v) e2 s2 else P .nx e s1) :
    wS (.whl c b) env st P := by
  simp only [wS, dS]
  have go : ∀ (k : Nat) (m : Nat) (e : Env) (s : Store), m < k → m ≤ n → I m e s → wF (whlL (fun e s => toB (dE c e s)) (fun e s => dS b e s) k e s) P := fun k => by
    induction k with
    | zero => intro m e s h; omega
    | succ k ih =>
      intro m e s hk hm hI
      have q := hs m e s hm hI
      unfold whlL
      rw [wF_bindB]
      refine W.mono q fun t s1 q => ?_
      cases t with
      | false => simpa using q
      | true =>
        simp only [if_true] at q ⊢
        obtain ⟨f, e2, s2, hb, q⟩ := wF.some q
        rw [hb, Option.bind_some]
        cases f with
        | nx => obtain ⟨m', lt, q⟩ := q; exact ih m' e2 s2 (by omega) (by omega) q
        | cont => obtain ⟨m', lt, q⟩ := q; exact ih m' e2 s2 (by omega) (by omega) q
        | brk => exact q
        | ret v => exact q
  exact go fuel n env st hn (Nat.le_refl _) h
/-! ### functions -/
def retK (P : PV → Store → Prop) (f : Flow) (_ : Env) (s : Store) : Prop := match f with
  | .ret v => P v s
  | .nx => P .non s
  | _ => False
theorem rk_ret {P : PV → Store → Prop} {v : PV} {e : Env} {s : Store} (h : P v s) : retK P (.ret v) e s := h
theorem rk_nx {P : PV → Store → Prop} {e : Env} {s : Store} (h : P .non s) : retK P .nx e s := h
theorem W_run {p n : Nat} {b : S} {vs : List PV} {st : Store} {P : PV → Store → Prop} (hl : vs.length = p) (h : wS b (vs.map some ++ List.replicate (n - vs.length) none) st (retK P)) : W (runF p n b vs st) P := by
  unfold runF
  rw [if_pos hl]
  unfold run
  obtain ⟨f, e, s, hb, q⟩ := wF.some h
  rw [hb]
  cases f with
  | nx => exact q
  | ret v => exact q
  | brk => exact q.elim
  | cont => exact q.elim
/-! ### comprehensions -/
theorem w_lc {t : It} {g : Tg} {own : List Nat} {ts : Es} {e : E} {env : Env} {st : Store} {P : List PV → Store → Prop} : wL (.lc t g own ts e) env st P = wI t env (setLk true st (lkOf t env st)) fun src s1 =>
    W (compL (bindT g (wipe env own)) (okG src.gd) (fun e' s => dTs ts e' s) (fun e' s => dE e e' s) src.xs [] s1) fun ys s2 => P ys (setLk false s2 (lkOf t env st)) := by
  simp only [wL, wI, dL, W_bind, W_some]
theorem comp_inv {bind : PV → Option Env} {ok : Store → Bool} {test : Env → Store → Option (Bool × Store)} {item : Env → Store → Option (PV × Store)} {P : List PV → Store → Prop} (I : Nat → List PV → Store → Prop) :
    ∀ {xs acc : List PV} {k n : Nat} {st : Store}, k + xs.length = n → I k acc st → (∀ i x acc s, xs[i]? = some x → I (k + i) acc s → ok s = true ∧ ∃ e1, bind x = some e1 ∧ W (test e1 s) fun b s1 =>
      if b = true then W (item e1 s1) fun y s2 => acc.length < 16000000 ∧ I (k + i + 1) (acc ++ [y]) s2 else I (k + i + 1) acc s1) → (∀ acc s, I n acc s → ok s = true ∧ P acc s) → W (compL bind ok test item xs acc st) P
  | [], acc, k, n, st, hn, h, _, hd => by
    have : k = n := by simpa using hn
    subst this
    obtain ⟨a, b⟩ := hd acc st h
    unfold compL
    rw [if_pos a]
    exact b
  | x :: xs, acc, k, n, st, hn, h, hs, hd => by
    obtain ⟨a, e1, he, hw⟩ := hs 0 x acc st rfl h
    unfold compL
    rw [if_pos a, he, Option.bind_some]
    obtain ⟨b, s1, ht, q⟩ := hw.some
    rw [ht, Option.bind_some]
    have go : ∀ {acc' : List PV} {s2 : Store}, I (k + 0 + 1) acc' s2 → W (compL bind ok test item xs acc' s2) P := fun {acc' s2} q => comp_inv I (k := k + 1) (n := n) (by simp at hn ⊢; omega) q (fun i y acc s hy hi => by
      have e0 : k + 1 + i = k + (i + 1) := by omega
      rw [e0] at hi ⊢
      exact hs (i + 1) y acc s (by simpa using hy) hi) hd
    cases b with
    | false => simp only [Bool.false_eq_true, if_false] at q ⊢; exact go q
    | true =>
      simp only [if_true] at q ⊢
      obtain ⟨y, s2, hi, lt, q⟩ := q.some
      rw [hi, Option.bind_some]
      simp only [lt, if_true]
      exact go q
/-! ### one step -/
theorem i_loc {i : Nat} {v : PV} {env : Env} {st : Store} {P : PV → Store → Prop} (h : env[i]? = Option.some (Option.some v)) (p : P v st) : wE (.loc i) env st P := by
  simp only [w_loc, h]
  exact p
theorem i_if {t : Bool} {A B : Prop} (h : t = true → A) (h' : t = false → B) : if t = true then A else B := by
  cases t with
  | true => exact h rfl
  | false => exact h' rfl
theorem i_T {A B : Prop} (h : A) : if true = true then A else B := h
theorem i_F {A B : Prop} (h : B) : if false = true then A else B := h
section
variable {i j : Int} {st : Store} {P : PV → Store → Prop} {n : Nat} {xs : List PV} {v : PV} {kvs : List (Key × PV)} {lk : Bool}
theorem W_add (p : P (.int (i + j)) st) : W (fAdd [.int i, .int j] st) P := p
theorem W_addT {xs ys : List PV} (h : xs.length + ys.length ≤ 16000000) (p : P (.tup (xs ++ ys)) st) : W (fAdd [.tup xs, .tup ys] st) P := W_of (by simp only [fAdd, if_pos h]) p
theorem W_addL {m : Nat} {xs ys : List PV} (hm : st[m]? = Option.some (.lst xs)) (hn : st[n]? = Option.some (.lst ys)) (h : xs.length + ys.length ≤ 16000000) (p : P (.ref st.length) (st ++ [.lst (xs ++ ys)])) : W (fAdd [.ref m, .ref n] st) P := W_of (by simp only [fAdd, hm, hn, if_pos h]) p
theorem W_addI (p : P (.int (i + j)) st) : W (fAddI [.int i, .int j] st) P := p
theorem W_subI (p : P (.int (i - j)) st) : W (fSubI [.int i, .int j] st) P := p
theorem W_sub (p : P (.int (i - j)) st) : W (fSub [.int i, .int j] st) P := p
theorem W_mul (h : okMul i j) (p : P (.int (i * j)) st) : W (fMul [.int i, .int j] st) P := W_of (by simp only [fMul, if_pos h]) p
theorem W_mulT {xs : List PV} (h : xs.length ≤ 1000 ∧ 0 ≤ j ∧ j < 1000) (p : P (.tup (List.replicate j.toNat xs).flatten) st) : W (fMul [.tup xs, .int j] st) P := W_of (by simp only [fMul, if_pos h]) p
theorem W_div (h : okDiv j) (p : P (.int (i / j)) st) : W (fDiv [.int i, .int j] st) P := W_of (by simp only [fDiv, if_pos h]) p
theorem W_mod (h : 0 < j) (p : P (.int (i % j)) st) : W (fMod [.int i, .int j] st) P := W_of (by simp only [fMod, if_pos h]) p
theorem W_pow (h : 0 ≤ j ∧ j ≤ 1000000 ∧ i.natAbs < 2 ^ 64) (p : P (.int (i ^ j.toNat)) st) : W (fPow [.int i, .int j] st) P := W_of (by simp only [fPow, if_pos h]) p
theorem W_neg (p : P (.int (-i)) st) : W (fNeg [.int i] st) P := p
theorem W_not {b : Bool} (p : P (.bl (!b)) st) : W (fNot [.bl b] st) P := p
theorem W_int (p : P (.int i) st) : W (fInt [.int i] st) P := p
theorem W_abs (p : P (.int (if i < 0 then -i else i)) st) : W (fAbs [.int i] st) P := p
theorem W_lt (p : P (.bl (decide (i < j))) st) : W (fLt [.int i, .int j] st) P := p
theorem W_le (p : P (.bl (decide (i ≤ j))) st) : W (fLe [.int i, .int j] st) P := p
theorem W_gt (p : P (.bl (decide (j < i))) st) : W (fGt [.int i, .int j] st) P := p
theorem W_ge (p : P (.bl (decide (j ≤ i))) st) : W (fGe [.int i, .int j] st) P := p
theorem W_eqI (p : P (.bl (decide (i = j))) st) : W (fEq [.int i, .int j] st) P := p
theorem W_neI (p : P (.bl (!decide (i = j))) st) : W (fNe [.int i, .int j] st) P := p
theorem W_isN (p : P (.bl (decide (v = .non))) st) : W (fIsN [v, .non] st) P := p
theorem W_notN (p : P (.bl (!decide (v = .non))) st) : W (fNotN [v, .non] st) P := p
theorem W_tup (p : P (.tup xs) st) : W (fTup xs st) P := p
theorem W_gLst (p : P (.ref st.length) (st ++ [.lst xs])) : W (gLst xs st) P := p
theorem W_gTup (p : P (.tup xs) st) : W (gTuple xs st) P := p
theorem W_gLen (p : P (.int xs.length) st) : W (gLen xs st) P := p
theorem W_dic0 {xs : List PV} (p : P (.ref st.length) (st ++ [.dic false []])) : W (fDic0 xs st) P := p
theorem W_ixL (h : st[n]? = Option.some (.lst xs)) (h2 : atI xs i = Option.some v) (p : P v st) : W (fIx [.ref n, .int i] st) P := W_of (by simp only [fIx, ixB, h, h2, Option.map_some]) p
theorem W_ixT (h2 : atI xs i = Option.some v) (p : P v st) : W (fIx [.tup xs, .int i] st) P := W_of (by simp only [fIx, ixB, h2, Option.map_some]) p
theorem W_ixD {y : PV} {k : Key} (h : st[n]? = Option.some (.dic lk kvs)) (hk : keyOf y = Option.some k) (h2 : getP k kvs = Option.some v) (p : P v st) : W (fIx [.ref n, y] st) P := W_of (by simp [fIx, ixB, h, getK, hk, h2]) p
theorem W_lenL (h : st[n]? = Option.some (.lst xs)) (p : P (.int xs.length) st) : W (fLen [.ref n] st) P := W_of (by simp [fLen, lenB, h]) p
theorem W_lenD (h : st[n]? = Option.some (.dic lk kvs)) (p : P (.int kvs.length) st) : W (fLen [.ref n] st) P := W_of (by simp [fLen, lenB, h]) p
theorem W_lenT (p : P (.int xs.length) st) : W (fLen [.tup xs] st) P := p
theorem W_tupT (p : P (.tup xs) st) : W (fTupD [.tup xs] st) P := p
theorem W_tupL (h : st[n]? = Option.some (.lst xs)) (p : P (.tup xs) st) : W (fTupD [.ref n] st) P := W_of (by simp [fTupD, fTuple, lstAt, h]) p
theorem W_tupDi (h : st[n]? = Option.some (.dic false kvs)) (p : P (.tup (kvs.map fun q => kP q.1)) st) : W (fTupD [.ref n] st) P := W_of (by simp [fTupD, h]) p
theorem W_dict (h : st[n]? = Option.some (.dic false kvs)) (p : P (.ref st.length) (st ++ [.dic false kvs])) : W (fDict [.ref n] st) P := W_of (by simp [fDict, h]) p
theorem W_liT {Q : List PV → Store → Prop} (p : Q xs st) : W (flList [.tup xs] st) Q := p
theorem W_liL {Q : List PV → Store → Prop} (h : st[n]? = Option.some (.lst xs)) (p : Q xs st) : W (flList [.ref n] st) Q := W_of (by simp [flList, h]) p
theorem W_slHT (p : P (.tup (cutP xs none (Option.some j))) st) : W (fSlH [.tup xs, .int j] st) P := p
theorem W_slLT (p : P (.tup (cutP xs (Option.some j) none)) st) : W (fSlL [.tup xs, .int j] st) P := p
theorem W_slHL (h : st[n]? = Option.some (.lst xs)) (p : P (.ref st.length) (st ++ [.lst (cutP xs none (Option.some j))])) : W (fSlH [.ref n, .int j] st) P := W_of (by simp [fSlH, prt, slB, lstAt, h]) p
theorem W_slLL (h : st[n]? = Option.some (.lst xs)) (p : P (.ref st.length) (st ++ [.lst (cutP xs (Option.some j) none)])) : W (fSlL [.ref n, .int j] st) P := W_of (by simp [fSlL, prt, slB, lstAt, h]) p
theorem W_slHS {ns : List Int} (p : P (.ref st.length) (st ++ [.lst (cutP (ns.map PV.int) none (Option.some j))])) : W (fSlH [.sls ns, .int j] st) P := p
theorem W_appd (h : st[n]? = Option.some (.lst xs)) (hl : xs.length < 16000000) (p : P .non (st.set n (.lst (xs ++ [v])))) : W (mAppend [.ref n, v] st) P := W_of (by simp only [mAppend, h, if_pos hl]) p
theorem Wo_setL {y : PV} {Q : Store → Prop} (h : st[n]? = Option.some (.lst xs)) (h0 : 0 ≤ i) (h1 : i < xs.length) (p : Q (st.set n (.lst (xs.set i.toNat y)))) : Wo (setAt (.ref n) (.int i) y st) Q := Wo_of (by
  unfold setAt
  simp only [h]
  have : ixN xs.length i = Option.some i.toNat := by unfold ixN; rw [if_pos h0, if_pos h1]
  simp only [this]) p
theorem Wo_setD {x y : PV} {k : Key} {Q : Store → Prop} (h : st[n]? = Option.some (.dic false kvs)) (hk : keyOf x = Option.some k) (hl : kvs.length < 16000000) (p : Q (st.set n (.dic false (putP k y kvs)))) : Wo (setAt (.ref n) x y st) Q := Wo_of (by
  unfold setAt
  simp only [h, hk, if_pos hl]) p
theorem Wo_srcT {Q : Src → Prop} (p : Q ⟨xs, []⟩) : Wo (srcOf (.tup xs) st) Q := p
theorem Wo_srcL {Q : Src → Prop} (h : st[n]? = Option.some (.lst xs)) (p : Q ⟨xs, [(n, xs)]⟩) : Wo (srcOf (.ref n) st) Q := Wo_of (by simp only [srcOf, h]) p
theorem Wo_srcD {Q : Src → Prop} (h : st[n]? = Option.some (.dic true kvs)) (p : Q ⟨kvs.map fun q => kP q.1, []⟩) : Wo (srcOf (.ref n) st) Q := Wo_of (by simp only [srcOf, h]) p
theorem Wo_rng1 {Q : Src → Prop} (h : small62 j = true) (p : Q ⟨rngI 0 j, []⟩) : Wo (srcRng [.int j]) Q := Wo_of (by simp only [srcRng, h, if_true]) p
theorem Wo_rng2 {Q : Src → Prop} (h : (small62 i && small62 j) = true) (p : Q ⟨rngI i j, []⟩) : Wo (srcRng [.int i, .int j]) Q := Wo_of (by simp only [srcRng, h, if_true]) p
end
end Den

/-! VcH: the laws' own draws. -/
namespace Den
open PySem L2
/-! ### small facts -/
theorem atI_lt {α : Type} {xs : List α} {i : Int} (h0 : 0 ≤ i) (h1 : i < xs.length) : atI xs i = xs[i.toNat]? := by
  unfold atI ixN
  rw [if_pos h0, if_pos h1]
  rfl
theorem atI_some {α : Type} {xs : List α} {i : Int} (h0 : 0 ≤ i) (h1 : i < xs.length) : ∃ x, atI xs i = some x ∧ xs[i.toNat]? = some x := by
  rw [atI_lt h0 h1]
  have : i.toNat < xs.length := by omega
  exact ⟨xs[i.toNat], List.getElem?_eq_getElem this, List.getElem?_eq_getElem this⟩
@[simp] theorem atI_0 {α : Type} {x : α} {xs : List α} : atI (x :: xs) 0 = some x := by rw [atI_lt (by decide) (by simp <;> omega)]; rfl
@[simp] theorem atI_1 {α : Type} {x y : α} {xs : List α} : atI (x :: y :: xs) 1 = some y := by rw [atI_lt (by decide) (by simp <;> omega)]; rfl
@[simp] theorem atI_2 {α : Type} {x y z : α} {xs : List α} : atI (x :: y :: z :: xs) 2 = some z := by rw [atI_lt (by decide) (by simp <;> omega)]; rfl
@[simp] theorem atI_3 {α : Type} {x y z u : α} {xs : List α} : atI (x :: y :: z :: u :: xs) 3 = some u := by rw [atI_lt (by decide) (by simp <;> omega)]; rfl
theorem ixN_lt {n : Nat} {i : Int} (h0 : 0 ≤ i) (h1 : i < n) : ixN n i = some i.toNat := by unfold ixN; rw [if_pos h0, if_pos h1]
/-- nothing else changes -/
structure Fr (ps : List Nat) (st st' : Store) : Prop where
  le : st.length ≤ st'.length
  eq : ∀ i, i < st.length → i ∉ ps → st'[i]? = st[i]?
theorem Fr.refl {ps : List Nat} {st : Store} : Fr ps st st := ⟨Nat.le_refl _, fun _ _ _ => rfl⟩
theorem Fr.trans {ps : List Nat} {a b c : Store} (h : Fr ps a b) (k : Fr ps b c) : Fr ps a c := ⟨Nat.le_trans h.le k.le, fun i hi hp => (k.eq i (Nat.lt_of_lt_of_le hi h.le) hp).trans (h.eq i hi hp)⟩
theorem Fr.app {ps : List Nat} {st : Store} (x : Store) : Fr ps st (st ++ x) := ⟨by simp, fun i hi _ => List.getElem?_append_left hi⟩
theorem Fr.set {ps : List Nat} {st : Store} {i : Nat} {o : Ob} (h : i ∈ ps) : Fr ps st (st.set i o) := ⟨by simp, fun j _ hp => List.getElem?_set_ne (fun z => hp (by rw [← z]; exact h))⟩
theorem Fr.mono {ps qs : List Nat} {a b : Store} (h : Fr ps a b) (m : ∀ i ∈ ps, i ∈ qs) : Fr qs a b := ⟨h.le, fun i hi hp => h.eq i hi fun z => hp (m i z)⟩
/-- only what is new changes, or stands at ps -/
theorem Fr.new {ps : List Nat} {a b : Store} {n : Nat} (h : Fr (n :: ps) a b) (hn : a.length ≤ n) : Fr ps a b := ⟨h.le, fun i hi hp => h.eq i hi (by
  simp only [List.mem_cons, not_or]
  exact ⟨by omega, hp⟩)⟩
theorem Fr.get {ps : List Nat} {st st' : Store} (h : Fr ps st st') {i : Nat} {o : Ob} (e : st[i]? = some o) (hp : i ∉ ps) : st'[i]? = some o := by
  have hi : i < st.length := (List.getElem?_eq_some_iff.mp e).1
  rw [h.eq i hi hp]; exact e
/-- the draws' pot: a list at p, its two lists at g, s -/
structure Pot (p g s : Nat) (st : Store) : Prop where
  pg : p ≠ g
  ps : p ≠ s
  gs : g ≠ s
  ex : ∃ (lap k : Int) (gr sm : List Int), st[p]? = some (.lst [.ref g, .ref s, .int lap, .int k]) ∧ st[g]? = some (.lst (gr.map PV.int)) ∧ st[s]? = some (.lst (sm.map PV.int)) ∧ sm ≠ [] ∧ gr.length ≤ 1000
theorem Pot.fr {p g s : Nat} {qs : List Nat} {st st' : Store} (h : Pot p g s st) (f : Fr qs st st') (h1 : p ∉ qs) (h2 : g ∉ qs) (h3 : s ∉ qs) : Pot p g s st' := by
  obtain ⟨lap, k, gr, sm, a, b, c, d⟩ := h.ex
  exact ⟨h.pg, h.ps, h.gs, lap, k, gr, sm, f.get a h1, f.get b h2, f.get c h3, d⟩
def hPot : S := (.seq (.set 1 (.ofl gLst (.lc (.val (.app fSlH (.cons (.loc 0) (.cons (.con (.int 63)) .nil)))) (.nm 4) [4] .nil (.app fInt (.cons (.loc 4) .nil)))))
(.seq (.set 2 (.ofl gLst (.lc (.val (.loc 1)) (.nm 4) [4] (.cons (.app fGe (.cons (.app fAbs (.cons (.loc 4) .nil)) (.cons (.app fPow (.cons (.con (.int 10)) (.cons (.con (.int 18)) .nil))) .nil))) .nil) (.app fAbs (.cons (.loc 4) .nil)))))
(.seq (.set 3 (.app fAdd (.cons (.ofl gLst (.lc (.val (.loc 1)) (.nm 4) [4] (.cons (.app fLt (.cons (.app fAbs (.cons (.loc 4) .nil)) (.cons (.app fPow (.cons (.con (.int 10)) (.cons (.con (.int 18)) .nil))) .nil))) .nil) (.app fMod (.cons (.app fInt (.cons (.loc 4) .nil)) (.cons (.con (.int 1000000007)) .nil))))) (.cons (.ofl gLst (.dsp (.cons (.app fAdd (.cons (.app fLen (.cons (.loc 1) .nil)) (.cons (.con (.int 1)) .nil))) .nil))) .nil))))
(.ret (.ofl gLst (.dsp (.cons (.loc 2) (.cons (.loc 3) (.cons (.con (.int 0)) (.cons (.app fMod (.cons (.app fInt (.cons (.app (ofG gSum) (.cons (.loc 3) .nil)) .nil)) (.cons (.con (.int 999983)) .nil))) .nil))))))))))
def hDraw : S := (.seq (.set 2 (.app fIx (.cons (.loc 0) (.cons (.con (.int 2)) .nil))))
(.seq (.asg (.sub (.loc 0) (.con (.int 2))) (.app fAdd (.cons (.loc 2) (.cons (.con (.int 1)) .nil))))
(.seq (.ite (.app fGt (.cons (.app fLen (.cons (.app fIx (.cons (.loc 0) (.cons (.con (.int 0)) .nil))) .nil)) (.cons (.con (.int 0)) .nil)))
(.seq (.set 3 (.app fIx (.cons (.app fIx (.cons (.loc 0) (.cons (.con (.int 0)) .nil))) (.cons (.con (.int 0)) .nil))))
(.seq (.asg (.sub (.app fIx (.cons (.loc 0) (.cons (.con (.int 0)) .nil))) (.con (.int 0))) (.app fDiv (.cons (.loc 3) (.cons (.loc 1) .nil))))
(.seq (.ite (.app fLt (.cons (.loc 3) (.cons (.loc 1) .nil)))
(.ex (.mth isLst mPop (.app fIx (.cons (.loc 0) (.cons (.con (.int 0)) .nil))) (.cons (.con (.int 0)) .nil)))
.skip)
(.ret (.app fMod (.cons (.app fInt (.cons (.loc 3) .nil)) (.cons (.loc 1) .nil)))))))
.skip)
(.seq (.set 4 (.app fAdd (.cons (.app fAdd (.cons (.app fMul (.cons (.app fIx (.cons (.app fIx (.cons (.loc 0) (.cons (.con (.int 1)) .nil))) (.cons (.app fMod (.cons (.app fInt (.cons (.loc 2) .nil)) (.cons (.app fLen (.cons (.app fIx (.cons (.loc 0) (.cons (.con (.int 1)) .nil))) .nil)) .nil))) .nil))) (.cons (.con (.int 7919)) .nil))) (.cons (.app fMul (.cons (.con (.int 104729)) (.cons (.loc 2) .nil))) .nil))) (.cons (.app fMul (.cons (.app fIx (.cons (.loc 0) (.cons (.con (.int 3)) .nil))) (.cons (.con (.int 31)) .nil))) .nil))))
(.seq (.set 3 (.app fMod (.cons (.app fInt (.cons (.app fAdd (.cons (.app fMul (.cons (.loc 4) (.cons (.con (.int 48271)) .nil))) (.cons (.con (.int 11)) .nil))) .nil)) (.cons (.con (.int 2147483647)) .nil))))
(.seq (.set 3 (.app fMod (.cons (.app fInt (.cons (.app fMul (.cons (.loc 3) (.cons (.app fAdd (.cons (.app fDiv (.cons (.loc 3) (.cons (.con (.int 1009)) .nil))) (.cons (.con (.int 69621)) .nil))) .nil))) .nil)) (.cons (.con (.int 2147483629)) .nil))))
(.seq (.set 3 (.app fMod (.cons (.app fInt (.cons (.app fAdd (.cons (.app fMul (.cons (.loc 3) (.cons (.app fAdd (.cons (.app fDiv (.cons (.loc 3) (.cons (.con (.int 2003)) .nil))) (.cons (.con (.int 40692)) .nil))) .nil))) (.cons (.loc 2) .nil))) .nil)) (.cons (.con (.int 2147483399)) .nil))))
(.ret (.app fMod (.cons (.app fInt (.cons (.app fDiv (.cons (.loc 3) (.cons (.con (.int 64)) .nil))) .nil)) (.cons (.loc 1) .nil)))))))))))
def hAny (F_law_draw : Fn) : S := (.ret (.app fIx (.cons (.loc 1) (.cons (.app F_law_draw (.cons (.loc 0) (.cons (.app fLen (.cons (.loc 1) .nil)) .nil))) .nil))))
def hMixed (F_law_draw : Fn) : S := (.seq (.set 2 (.ofl gLst (.app flList (.cons (.loc 1) .nil))))
(.seq (.for (.rng (.cons (.app fLen (.cons (.loc 2) .nil)) .nil)) (.nm 3)
(.seq (.set 4 (.app F_law_draw (.cons (.loc 0) (.cons (.app fLen (.cons (.loc 2) .nil)) .nil))))
(.asgT [(.sub (.loc 2) (.loc 3)), (.sub (.loc 2) (.loc 4))] (.app fTup (.cons (.app fIx (.cons (.loc 2) (.cons (.loc 4) .nil))) (.cons (.app fIx (.cons (.loc 2) (.cons (.loc 3) .nil))) .nil))))))
(.ret (.loc 2))))

local macro_rules | `(tactic| walk_at "d") => `(tactic| first
  | ((with_reducible refine' i_loc ?h ?_); case h => exact rfl)
  | with_reducible refine w_seq.mpr ?_ | with_reducible refine w_set.mpr ?_ | with_reducible refine w_ex.mpr ?_ | with_reducible refine w_ret.mpr ?_ | with_reducible refine w_site.mpr ?_ | with_reducible refine w_asgn.mpr ?_ | with_reducible refine w_asgs.mpr ?_ | with_reducible refine w_asgT.mpr ?_
  | with_reducible refine w_skip.mpr ?_ | with_reducible refine sk_nx ?_ | with_reducible refine sk_ret ?_ | with_reducible refine sk_brk ?_ | with_reducible refine sk_cont ?_ | with_reducible refine rk_ret ?_ | with_reducible refine rk_nx ?_ | with_reducible refine tk_tup ?_
  | with_reducible refine bk_bl ?_ | with_reducible refine w_tnm.mpr ?_ | with_reducible refine w_tsub.mpr ?_ | with_reducible refine w_tnil.mpr ?_ | with_reducible refine wB_W.mpr ?_ | with_reducible refine w_con.mpr ?_ | with_reducible refine w_app.mpr ?_ | with_reducible refine w_cons.mpr ?_
  | with_reducible refine w_nil.mpr ?_ | with_reducible refine w_and.mpr ?_ | with_reducible refine w_or.mpr ?_ | with_reducible refine w_ite.mpr ?_ | with_reducible refine w_chn.mpr ?_ | with_reducible refine w_mth.mpr ?_ | with_reducible refine w_ofl.mpr ?_ | with_reducible refine w_ixl.mpr ?_
  | with_reducible refine w_dsp.mpr ?_ | with_reducible refine w_lapp.mpr ?_ | with_reducible refine w_ival.mpr ?_ | with_reducible refine w_irng.mpr ?_ | with_reducible refine w_ienu.mpr ?_ | with_reducible refine w_iofl.mpr ?_ | with_reducible refine i_T ?_ | with_reducible refine i_F ?_
  | with_reducible refine W_add ?_ | with_reducible refine W_sub ?_ | with_reducible refine W_addI ?_ | with_reducible refine W_subI ?_ | with_reducible refine W_neg ?_ | with_reducible refine W_not ?_ | with_reducible refine W_int ?_ | with_reducible refine W_abs ?_
  | with_reducible refine W_lt ?_ | with_reducible refine W_le ?_ | with_reducible refine W_gt ?_ | with_reducible refine W_ge ?_ | with_reducible refine W_eqI ?_ | with_reducible refine W_neI ?_ | with_reducible refine W_isN ?_ | with_reducible refine W_notN ?_
  | with_reducible refine W_tup ?_ | with_reducible refine W_gLst ?_ | with_reducible refine W_gTup ?_ | with_reducible refine W_gLen ?_ | with_reducible refine W_dic0 ?_ | with_reducible refine W_lenT ?_ | with_reducible refine W_tupT ?_ | with_reducible refine W_liT ?_
  | with_reducible refine W_slHT ?_ | with_reducible refine W_slLT ?_ | with_reducible refine W_slHS ?_ | with_reducible refine Wo_srcT ?_
  | ((with_reducible refine' W_mul ?h ?_); case h => first | exact .inr (.inl (by decide)) | exact .inl (by decide) | exact .inl (by omega))
  | ((with_reducible refine' W_div ?h ?_); case h => decide)
  | ((with_reducible refine' W_mod ?h ?_); case h => decide)
  | ((with_reducible refine' W_pow ?h ?_); case h => decide)
  | ((with_reducible refine' W_ixL ?h ?k ?_); (case h => assumption); (case k => first | exact atI_0 | exact atI_1 | exact atI_2 | exact atI_3 | assumption))
  | ((with_reducible refine' W_lenL ?h ?_); case h => assumption))
theorem set_eq {st : Store} {i : Nat} {o u : Ob} (h : st[i]? = some u) : (st.set i o)[i]? = some o := List.getElem?_set_self (List.getElem?_eq_some_iff.mp h).1
theorem set_ne {st : Store} {i j : Nat} {o u : Ob} (h : st[j]? = some u) (n : i ≠ j) : (st.set i o)[j]? = some u := by rw [List.getElem?_set_ne n]; exact h
theorem app_get {st x : Store} {j : Nat} {u : Ob} (h : st[j]? = some u) : (st ++ x)[j]? = some u := by rw [List.getElem?_append_left (List.getElem?_eq_some_iff.mp h).1]; exact h
theorem app_new {st : Store} {o : Ob} : (st ++ [o])[st.length]? = some o := by rw [List.getElem?_append_right (Nat.le_refl _), Nat.sub_self]; rfl
theorem ne_at {st : Store} {j : Nat} {u : Ob} (h : st[j]? = some u) : st.length ≠ j := fun e => by
  have := (List.getElem?_eq_some_iff.mp h).1
  omega
theorem Wo_setL' {st : Store} {n : Nat} {xs zs : List PV} {i : Int} {y : PV} {Q : Store → Prop} (h : st[n]? = some (.lst xs)) (h0 : 0 ≤ i) (h1 : i < xs.length) (e : xs.set i.toNat y = zs) (p : ∀ st', st' = st.set n (.lst zs) → Q st') : Wo (setAt (.ref n) (.int i) y st) Q :=
  Wo_setL h h0 h1 (by rw [e]; exact p _ rfl)
theorem draw_ok {p g s : Nat} {st : Store} {m : Int} (h : Pot p g s st) (h0 : 0 < m) (h1 : m < 10 ^ 200) : W (runF 2 5 hDraw [.ref p, .int m] st) fun v st' => ∃ r : Int, v = .int r ∧ 0 ≤ r ∧ r < m ∧ Pot p g s st' ∧ st'.length = st.length ∧ Fr [p, g] st st' := by
  obtain ⟨lap, k, gr, sm, hp, hg, hs, hne, hgl⟩ := h.ex
  have e1 : p ≠ g := h.pg
  have e2 : p ≠ s := h.ps
  have e3 : g ≠ s := h.gs
  refine W_run rfl ?_
  unfold hDraw
  repeat walk_at "d"
  refine Wo_setL' (zs := [.ref g, .ref s, .int (lap + 1), .int k]) hp (by decide) (by simp) rfl fun st1 es1 => ?_
  have f1 : Fr [p, g] st st1 := by rw [es1]; exact Fr.set (by simp)
  have l1 : st1.length = st.length := by rw [es1]; simp
  have hp1 : st1[p]? = some (.lst [.ref g, .ref s, .int (lap + 1), .int k]) := by rw [es1]; exact set_eq hp
  have hg1 : st1[g]? = some (.lst (gr.map PV.int)) := by rw [es1]; exact set_ne hg e1
  have hs1 : st1[s]? = some (.lst (sm.map PV.int)) := by rw [es1]; exact set_ne hs e2
  clear es1
  repeat walk_at "d"
  refine i_if (fun t => ?_) (fun t => ?_)
  · -- a great number
    obtain ⟨n0, r0, rfl⟩ : ∃ n0 r0, gr = n0 :: r0 := by
      cases gr with
      | nil => simp at t
      | cons a b => exact ⟨a, b, rfl⟩
    have hg1' : st1[g]? = some (.lst (.int n0 :: r0.map PV.int)) := hg1
    clear hg1 hg hp hs
    repeat walk_at "d"
    refine W_div ⟨h0, h1⟩ ?_
    repeat walk_at "d"
    refine Wo_setL' (zs := .int (n0 / m) :: r0.map PV.int) hg1' (by decide) (by simp <;> omega) rfl fun st2 es2 => ?_
    have f2 : Fr [p, g] st1 st2 := by rw [es2]; exact Fr.set (by simp)
    have l2 : st2.length = st1.length := by rw [es2]; simp
    have hp2 : st2[p]? = some (.lst [.ref g, .ref s, .int (lap + 1), .int k]) := by rw [es2]; exact set_ne hp1 e1.symm
    have hg2 : st2[g]? = some (.lst (.int (n0 / m) :: r0.map PV.int)) := by rw [es2]; exact set_eq hg1'
    have hs2 : st2[s]? = some (.lst (sm.map PV.int)) := by rw [es2]; exact set_ne hs1 e3
    clear es2 hp1 hg1' hs1
    repeat walk_at "d"
    refine i_if (fun t2 => ?_) (fun t2 => ?_)
    · repeat walk_at "d"
      rw [if_pos (by simp [isLst, lstAt, hg2])]
      repeat walk_at "d"
      refine W_of (a := .int (n0 / m)) (s := st2.set g (.lst (r0.map PV.int))) (by
        have : r0.length ≤ 15999999 := by simp at hgl; omega
        simp [mPop, hg2, ixN, this]) ?_
      repeat walk_at "d"
      refine W_mod h0 ?_
      repeat walk_at "d"
      refine ⟨n0 % m, rfl, Int.emod_nonneg _ (by omega), Int.emod_lt_of_pos _ h0, ⟨e1, e2, e3, lap + 1, k, r0, sm, set_ne hp2 e1.symm, set_eq hg2, set_ne hs2 e3, hne, by simp at hgl; omega⟩, by simp [l2, l1], (f1.trans f2).trans (Fr.set (by simp))⟩
    · repeat walk_at "d"
      refine W_mod h0 ?_
      repeat walk_at "d"
      refine ⟨n0 % m, rfl, Int.emod_nonneg _ (by omega), Int.emod_lt_of_pos _ h0, ⟨e1, e2, e3, lap + 1, k, (n0 / m) :: r0, sm, hp2, hg2, hs2, hne, by simpa using hgl⟩, by rw [l2, l1], f1.trans f2⟩
  · have hl : 0 < (sm.length : Int) := by
      cases sm with
      | nil => exact absurd rfl hne
      | cons => simp <;> omega
    clear hg hp hs
    repeat walk_at "d"
    refine W_mod (by simpa using hl) ?_
    repeat walk_at "d"
    obtain ⟨x, hx, _⟩ := atI_some (xs := sm) (i := lap % ((sm.map PV.int).length : Int)) (Int.emod_nonneg _ (by simp; omega)) (by simpa using Int.emod_lt_of_pos lap hl)
    refine W_ixL hs1 (v := .int x) ?_ ?_
    · unfold atI at hx ⊢
      simp only [List.length_map] at hx ⊢
      cases h3 : ixN sm.length (lap % (sm.length : Int)) with
      | none => simp [h3] at hx
      | some j =>
        simp only [h3, Option.bind_some] at hx ⊢
        rw [List.getElem?_map, hx]
        rfl
    repeat walk_at "d"
    refine W_mod h0 ?_
    repeat walk_at "d"
    exact ⟨_, rfl, Int.emod_nonneg _ (by omega), Int.emod_lt_of_pos _ h0, ⟨e1, e2, e3, lap + 1, k, gr, sm, hp1, hg1, hs1, hne, hgl⟩, l1, f1⟩
end Den

/-! VcI: mixed lines, drawn items, the pot made. -/
namespace Den
open PySem L2
local macro_rules | `(tactic| walk_at "d") => `(tactic| first
  | ((with_reducible refine' i_loc ?h ?_); case h => exact rfl)
  | with_reducible refine w_seq.mpr ?_ | with_reducible refine w_set.mpr ?_ | with_reducible refine w_ex.mpr ?_ | with_reducible refine w_ret.mpr ?_ | with_reducible refine w_site.mpr ?_ | with_reducible refine w_asgn.mpr ?_ | with_reducible refine w_asgs.mpr ?_ | with_reducible refine w_asgT.mpr ?_
  | with_reducible refine w_skip.mpr ?_ | with_reducible refine sk_nx ?_ | with_reducible refine sk_ret ?_ | with_reducible refine sk_brk ?_ | with_reducible refine sk_cont ?_ | with_reducible refine rk_ret ?_ | with_reducible refine rk_nx ?_ | with_reducible refine tk_tup ?_
  | with_reducible refine bk_bl ?_ | with_reducible refine w_tnm.mpr ?_ | with_reducible refine w_tsub.mpr ?_ | with_reducible refine w_tnil.mpr ?_ | with_reducible refine wB_W.mpr ?_ | with_reducible refine w_con.mpr ?_ | with_reducible refine w_app.mpr ?_ | with_reducible refine w_cons.mpr ?_
  | with_reducible refine w_nil.mpr ?_ | with_reducible refine w_and.mpr ?_ | with_reducible refine w_or.mpr ?_ | with_reducible refine w_ite.mpr ?_ | with_reducible refine w_chn.mpr ?_ | with_reducible refine w_mth.mpr ?_ | with_reducible refine w_ofl.mpr ?_ | with_reducible refine w_ixl.mpr ?_
  | with_reducible refine w_dsp.mpr ?_ | with_reducible refine w_lapp.mpr ?_ | with_reducible refine w_ival.mpr ?_ | with_reducible refine w_irng.mpr ?_ | with_reducible refine w_ienu.mpr ?_ | with_reducible refine w_iofl.mpr ?_ | with_reducible refine i_T ?_ | with_reducible refine i_F ?_
  | with_reducible refine W_add ?_ | with_reducible refine W_sub ?_ | with_reducible refine W_addI ?_ | with_reducible refine W_subI ?_ | with_reducible refine W_neg ?_ | with_reducible refine W_not ?_ | with_reducible refine W_int ?_ | with_reducible refine W_abs ?_
  | with_reducible refine W_lt ?_ | with_reducible refine W_le ?_ | with_reducible refine W_gt ?_ | with_reducible refine W_ge ?_ | with_reducible refine W_eqI ?_ | with_reducible refine W_neI ?_ | with_reducible refine W_isN ?_ | with_reducible refine W_notN ?_
  | with_reducible refine W_tup ?_ | with_reducible refine W_gLst ?_ | with_reducible refine W_gTup ?_ | with_reducible refine W_gLen ?_ | with_reducible refine W_dic0 ?_ | with_reducible refine W_lenT ?_ | with_reducible refine W_tupT ?_ | with_reducible refine W_liT ?_
  | with_reducible refine W_slHT ?_ | with_reducible refine W_slLT ?_ | with_reducible refine W_slHS ?_ | with_reducible refine Wo_srcT ?_
  | ((with_reducible refine' W_mul ?h ?_); case h => first | exact .inr (.inl (by decide)) | exact .inl (by decide) | exact .inl (by omega))
  | ((with_reducible refine' W_div ?h ?_); case h => decide)
  | ((with_reducible refine' W_mod ?h ?_); case h => decide)
  | ((with_reducible refine' W_pow ?h ?_); case h => decide)
  | ((with_reducible refine' W_ixL ?h ?k ?_); (case h => assumption); (case k => first | exact atI_0 | exact atI_1 | exact atI_2 | exact atI_3 | assumption))
  | ((with_reducible refine' W_lenL ?h ?_); case h => assumption))

abbrev fDraw : Fn := runF 2 5 hDraw
theorem perm_swap {ys : List PV} {i j : Nat} {a b : PV} (hi : ys[i]? = some a) (hj : ys[j]? = some b) : ((ys.set i b).set j a).Perm ys := by
  rw [List.perm_iff_count]
  intro x
  have li := (List.getElem?_eq_some_iff.mp hi)
  have lj := (List.getElem?_eq_some_iff.mp hj)
  obtain ⟨l1, g1⟩ := li
  obtain ⟨l2, g2⟩ := lj
  rw [List.count_set (by simpa using l2), List.count_set l1]
  by_cases e : i = j
  · subst e
    have : a = b := g1.symm.trans g2
    subst this
    simp only [List.getElem_set_self, g1]
    have hc : (if a == x then 1 else 0) ≤ ys.count x := by
      split
      · rename_i z
        have : a = x := by simpa using z
        subst this
        exact List.count_pos_iff.mpr (List.mem_of_getElem? hi)
      · exact Nat.zero_le _
    omega
  · rw [List.getElem_set_ne e]
    rw [g1, g2]
    have h1 : (if a == x then 1 else 0) ≤ ys.count x := by
      split
      · rename_i z
        have : a = x := by simpa using z
        subst this
        exact List.count_pos_iff.mpr (List.mem_of_getElem? hi)
      · exact Nat.zero_le _
    have h2 : (if b == x then 1 else 0) ≤ ys.count x := by
      split
      · rename_i z
        have : b = x := by simpa using z
        subst this
        exact List.count_pos_iff.mpr (List.mem_of_getElem? hj)
      · exact Nat.zero_le _
    omega
theorem W_draw {p g s : Nat} {st : Store} {m : Int} {P : PV → Store → Prop} (h : Pot p g s st) (h0 : 0 < m) (h1 : m < 10 ^ 200) (k : ∀ (r : Int) (st' : Store), 0 ≤ r → r < m → Pot p g s st' → st'.length = st.length → Fr [p, g] st st' → P (.int r) st') :
    W (fDraw [.ref p, .int m] st) P := (draw_ok h h0 h1).mono fun v st' ⟨r, e, a, b, c, d, f⟩ => by
  subst e
  exact k r st' a b c d f
theorem rngI_len' {a b : Int} : (rngI a b).length = (b - a).toNat := by unfold rngI; simp
theorem rngI_at {a b : Int} {i : Nat} {x : PV} (h : (rngI a b)[i]? = some x) : x = .int (a + i) ∧ i < (b - a).toNat := by
  unfold rngI at h
  rw [List.getElem?_map] at h
  cases h1 : (List.range (b - a).toNat)[i]? with
  | none => simp [h1] at h
  | some j =>
    rw [h1] at h
    have hl := (List.getElem?_eq_some_iff.mp h1).1
    rw [List.getElem?_range (by simpa using hl)] at h1
    cases h1
    exact ⟨by simpa using h.symm, by simpa using hl⟩
theorem big200 {n : Nat} (h : n ≤ 1000000) : (n : Int) < 10 ^ 200 := Int.lt_of_le_of_lt (Int.ofNat_le.mpr h) (by decide +kernel)
theorem small_len {n : Nat} (h : n ≤ 1000000) : small62 (n : Int) = true := by
  unfold small62
  rw [Bool.and_eq_true, decide_eq_true_eq, decide_eq_true_eq]
  omega
/-- what mixed gives of a line of items -/
theorem mixed_ok {p g s : Nat} {st : Store} {v : PV} {xs : List PV} {P : PV → Store → Prop} (h : Pot p g s st) (hv : flList [v] st = some (xs, st)) (hl : xs.length ≤ 1000000)
    (k : ∀ (n : Nat) (ys : List PV) (st' : Store), st.length ≤ n → st'[n]? = some (.lst ys) → ys.Perm xs → Pot p g s st' → Fr [p, g] st st' → P (.ref n) st') : W (runF 2 5 (hMixed fDraw) [.ref p, v] st) P := by
  refine W_run rfl ?_
  unfold hMixed
  repeat walk_at "d"
  refine W_of hv ?_
  repeat walk_at "d"
  have en : (st ++ [Ob.lst xs])[st.length]? = some (.lst xs) := app_new
  have hPot : Pot p g s (st ++ [Ob.lst xs]) := by
    obtain ⟨lap, k, gr, sm, hp, hg, hs, hne, hgl⟩ := h.ex
    exact ⟨h.pg, h.ps, h.gs, lap, k, gr, sm, app_get hp, app_get hg, app_get hs, hne, hgl⟩
  have f0 : Fr [p, g] st (st ++ [Ob.lst xs]) := Fr.app _
  have np : ∀ i ∈ [p, g, s], i ≠ st.length := by
    obtain ⟨lap, k, gr, sm, hp, hg, hs, _⟩ := h.ex
    intro i hi
    have h1 := (List.getElem?_eq_some_iff.mp hp).1
    have h2 := (List.getElem?_eq_some_iff.mp hg).1
    have h3 := (List.getElem?_eq_some_iff.mp hs).1
    simp only [List.mem_cons, List.not_mem_nil, or_false] at hi
    rcases hi with rfl | rfl | rfl <;> omega
  generalize hst1 : st ++ [Ob.lst xs] = st1 at *
  have hst1l : st1.length = st.length + 1 := by rw [← hst1]; simp
  rw [w_for]
  simp only [lkOf, setLk]
  repeat walk_at "d"
  with_reducible refine Wo_rng1 ?_ ?_
  · exact small_len hl
  refine for_inv (fun _ e s' => ∃ ys o q, e = [some (.ref p), some v, some (.ref st.length), o, q] ∧ s'[st.length]? = some (.lst ys) ∧ ys.Perm xs ∧ Pot p g s s' ∧ Fr [p, g] st s' ∧ st1.length ≤ s'.length) (k := 0) (n := xs.length) (by simp [rngI_len'])
    ⟨xs, none, none, rfl, en, List.Perm.refl _, hPot, f0, Nat.le_refl _⟩ ?_ ?_
  · rintro i x e s' hx ⟨ys, o, q, rfl, hn, hperm, hpot, hf, hle⟩
    obtain ⟨rfl, hi⟩ := rngI_at hx
    refine ⟨rfl, _, rfl, ?_⟩
    show wS _ _ _ _
    have hyl := hperm.length_eq
    repeat walk_at "d"
    refine W_draw hpot (by rw [hyl]; simp at hi; omega) (by rw [hyl]; exact big200 hl) fun r s2 r0 r1 hpot2 hl2 hf2 => ?_
    have hn2 : s2[st.length]? = some (.lst ys) := hf2.get hn (by
      simp only [List.mem_cons, List.not_mem_nil, or_false, not_or]
      exact ⟨fun z => np p (by simp) z.symm, fun z => np g (by simp) z.symm⟩)
    clear hx hn
    have hi' : (i : Int) < ys.length := by rw [hyl]; simp at hi; omega
    obtain ⟨a, ha, ha'⟩ := atI_some (xs := ys) (i := 0 + (i : Int)) (by omega) (by omega)
    obtain ⟨b, hb, hb'⟩ := atI_some (xs := ys) (i := r) r0 r1
    repeat walk_at "d"
    refine Wo_setL' (zs := ys.set (0 + (i : Int)).toNat b) hn2 (by omega) (by omega) rfl fun s3 e3 => ?_
    have hn3 : s3[st.length]? = some (.lst (ys.set (0 + (i : Int)).toNat b)) := by rw [e3]; exact set_eq hn2
    repeat walk_at "d"
    refine Wo_setL' (zs := (ys.set (0 + (i : Int)).toNat b).set r.toNat a) hn3 (by omega) (by simp; omega) rfl fun s4 e4 => ?_
    have hn4 : s4[st.length]? = some (.lst ((ys.set (0 + (i : Int)).toNat b).set r.toNat a)) := by rw [e4]; exact set_eq hn3
    have f34 : Fr [st.length] s2 s4 := by
      rw [e4, e3]
      exact (Fr.set (by simp)).trans (Fr.set (by simp))
    repeat walk_at "d"
    refine ⟨_, _, _, rfl, hn4, (perm_swap ha' hb').trans hperm, hpot2.fr f34 ?_ ?_ ?_, ?_, ?_⟩
    · simpa using np p (by simp)
    · simpa using np g (by simp)
    · simpa using np s (by simp)
    · refine ⟨?_, fun i hi hp => ?_⟩
      · have := hf.le; have := hf2.le; have := f34.le; omega
      · rw [f34.eq i (by have := hf.le; have := hf2.le; omega) (by simp; omega), hf2.eq i (by have := hf.le; omega) hp, hf.eq i hi hp]
    · have := hf2.le; have := f34.le; omega
  · rintro e s' ⟨ys, o, q, rfl, hn, hperm, hpot, hf, hle⟩
    refine ⟨rfl, ?_⟩
    repeat walk_at "d"
    exact k _ ys s' (Nat.le_refl _) hn hperm hpot hf
theorem W_any {p g s : Nat} {st : Store} {v : PV} {xs : List PV} {P : PV → Store → Prop} (h : Pot p g s st) (hv : (∃ zs, v = .tup zs ∧ zs = xs) ∨ ∃ n, v = .ref n ∧ st[n]? = some (.lst xs) ∧ n ≠ p ∧ n ≠ g) (h0 : xs ≠ []) (hl : xs.length ≤ 1000000)
    (k : ∀ (x : PV) (st' : Store), x ∈ xs → Pot p g s st' → st'.length = st.length → Fr [p, g] st st' → P x st') : W (runF 2 2 (hAny fDraw) [.ref p, v] st) P := by
  have hp : 0 < (xs.length : Int) := by
    cases xs with
    | nil => exact absurd rfl h0
    | cons => simp <;> omega
  refine W_run rfl ?_
  unfold hAny
  rcases hv with ⟨zs, rfl, rfl⟩ | ⟨n, rfl, hn, n1, n2⟩
  · repeat walk_at "d"
    refine W_draw h hp (big200 hl) fun r s2 r0 r1 hpot2 hl2 hf2 => ?_
    obtain ⟨a, ha, ha'⟩ := atI_some (xs := zs) (i := r) r0 r1
    repeat walk_at "d"
    refine W_ixT ha ?_
    repeat walk_at "d"
    exact k a s2 (List.mem_of_getElem? ha') hpot2 hl2 hf2
  · repeat walk_at "d"
    refine W_draw h hp (big200 hl) fun r s2 r0 r1 hpot2 hl2 hf2 => ?_
    obtain ⟨a, ha, ha'⟩ := atI_some (xs := xs) (i := r) r0 r1
    have hn2 : s2[n]? = some (.lst xs) := hf2.get hn (by simp [n1, n2])
    clear hn
    repeat walk_at "d"
    exact k a s2 (List.mem_of_getElem? ha') hpot2 hl2 hf2
/-! ### comprehensions that change nothing -/
theorem W_comp {bind : PV → Option Env} {ok : Store → Bool} {test : Env → Store → Option (Bool × Store)} {item : Env → Store → Option (PV × Store)} {st : Store} {P : List PV → Store → Prop} (t : PV → Bool) (f : PV → PV) (hok : ok st = true) : ∀ {xs acc : List PV},
    acc.length + xs.length ≤ 16000000 → (∀ x ∈ xs, ∃ e, bind x = some e ∧ W (test e st) (fun b s => b = t x ∧ s = st) ∧ (t x = true → W (item e st) fun v s => v = f x ∧ s = st)) → P (acc ++ (xs.filter t).map f) st → W (compL bind ok test item xs acc st) P
  | [], acc, _, _, p => by
    unfold compL
    rw [if_pos hok]
    simpa using p
  | x :: xs, acc, hl, h, p => by
    obtain ⟨e, he, ht, hi⟩ := h x List.mem_cons_self
    unfold compL
    rw [if_pos hok, he, Option.bind_some]
    obtain ⟨b, s, hb, rfl, rfl⟩ := ht.some
    rw [hb, Option.bind_some]
    cases hx : t x with
    | false =>
      simp only [Bool.false_eq_true, if_false]
      refine W_comp t f hok (by simp at hl ⊢; omega) (fun y hy => h y (List.mem_cons_of_mem _ hy)) ?_
      rw [List.filter_cons_of_neg (by simp [hx])] at p
      exact p
    | true =>
      simp only [if_true]
      obtain ⟨y, s, hy, rfl, rfl⟩ := (hi hx).some
      rw [hy, Option.bind_some]
      simp only
      rw [if_pos (by simp at hl; omega)]
      refine W_comp t f hok (by simp at hl ⊢; omega) (fun y hy => h y (List.mem_cons_of_mem _ hy)) ?_
      rw [List.filter_cons_of_pos hx] at p
      simpa using p
theorem okG_one {n : Nat} {xs : List PV} {st : Store} (h : st[n]? = some (.lst xs)) : okG [(n, xs)] st = true := by
  unfold okG
  simp [h]
theorem wB_T {e : E} {env : Env} {st : Store} {b : Bool} (h : wE e env st fun v s => v = .bl b ∧ s = st) : W (dTs (.cons e .nil) env st) (fun c s => c = b ∧ s = st) := by
  obtain ⟨v, s, hv, rfl, rfl⟩ := W.some h
  simp only [dTs, hv, toB, W_some, and_self]
theorem wB_nil {env : Env} {st : Store} : W (dTs .nil env st) (fun c s => c = true ∧ s = st) := by
  simp only [dTs, W_some, and_self]
theorem filter_ints (t : Int → Bool) : ∀ ns : List Int, ((ns.map PV.int).filter fun v => match v with | .int i => t i | _ => false) = (ns.filter t).map PV.int
  | [] => rfl
  | n :: ns => by
    simp only [List.map_cons]
    by_cases h : t n = true
    · rw [List.filter_cons_of_pos (by simpa using h), List.filter_cons_of_pos h, filter_ints t ns]; rfl
    · rw [List.filter_cons_of_neg (by simpa using h), List.filter_cons_of_neg h, filter_ints t ns]
theorem asInts_map : ∀ ns : List Int, asInts (ns.map PV.int) = some ns
  | [] => rfl
  | n :: ns => by
    show (asInts (ns.map PV.int)).map _ = _
    rw [asInts_map ns]
    rfl
theorem cutP_take {xs : List PV} {k : Nat} : cutP xs none (some (k : Int)) = xs.take k := by
  unfold cutP
  rw [HT.sIx_nat, HT.sIx_none]
  simp only [List.drop_zero, Nat.sub_zero]
  rw [Nat.min_def]
  split
  · rfl
  · rw [List.take_of_length_le (Nat.le_refl _), List.take_of_length_le (by omega)]
theorem lk_list {i n : Nat} {env : Env} {st : Store} {xs : List PV} (h : env[i]? = some (some (.ref n))) (h2 : st[n]? = some (.lst xs)) : lkOf (.val (.loc i)) env st = none := by simp only [lkOf, h, h2]
theorem lk_tup {i : Nat} {env : Env} {st : Store} {xs : List PV} (h : env[i]? = some (some (.tup xs))) : lkOf (.val (.loc i)) env st = none := by simp only [lkOf, h]
theorem filter_true {xs : List PV} {f : PV → PV} : (xs.filter fun _ => true).map f = xs.map f := by
  rw [List.filter_eq_self.mpr fun _ _ => rfl]
theorem map_ints (f : Int → Int) (ns : List Int) : ((ns.map PV.int).map fun v => match v with | .int i => PV.int (f i) | v => v) = (ns.map f).map PV.int := by
  rw [List.map_map, List.map_map]; rfl
theorem W_sumL {st : Store} {n : Nat} {xs : List Int} {P : PV → Store → Prop} (h : st[n]? = some (.lst (xs.map PV.int))) (p : P (.int xs.sum) st) : W (ofG gSum [.ref n] st) P := W_of (by simp [ofG, lstAt, h, gSum, asInts_map]) p
theorem W_pot {st : Store} {ns : List Int} {P : PV → Store → Prop} (k : ∀ (p g s : Nat) (st' : Store), Pot p g s st' → st.length ≤ p → st.length ≤ g → st.length ≤ s → Fr [] st st' → P (.ref p) st') : W (runF 1 5 hPot [.sls ns] st) P := by
  refine W_run rfl ?_
  unfold hPot
  repeat walk_at "d"
  rw [w_lc]
  simp only [lkOf, setLk]
  repeat walk_at "d"
  have ecut : cutP (ns.map PV.int) none (some 63) = (ns.take 63).map PV.int := by rw [show (63 : Int) = ((63 : Nat) : Int) from rfl, cutP_take, List.map_take]
  rw [ecut]
  have lms : (ns.take 63).length ≤ 63 := by simp; omega
  generalize ns.take 63 = ms at *
  have h1 : (st ++ [Ob.lst (ms.map PV.int)])[st.length]? = some (.lst (ms.map PV.int)) := app_new
  have f1 : Fr [] st (st ++ [Ob.lst (ms.map PV.int)]) := Fr.app _
  have l1 : (st ++ [Ob.lst (ms.map PV.int)]).length = st.length + 1 := by simp
  generalize (st ++ [Ob.lst (ms.map PV.int)]) = st1 at *
  refine Wo_srcL h1 ?_
  refine W_comp (fun _ => true) id (okG_one h1) (by simp; omega) (fun x hx => ?_) ?_
  · obtain ⟨i, _, rfl⟩ := List.mem_map.mp hx
    refine ⟨_, rfl, wB_nil, fun _ => ?_⟩
    change wE _ _ _ _
    repeat walk_at "d"
    exact ⟨rfl, rfl⟩
  rw [filter_true, List.map_id, List.nil_append]
  repeat walk_at "d"
  have h2 : (st1 ++ [Ob.lst (ms.map PV.int)])[st1.length]? = some (.lst (ms.map PV.int)) := app_new
  have f2 : Fr [] st1 (st1 ++ [Ob.lst (ms.map PV.int)]) := Fr.app _
  have l2 : (st1 ++ [Ob.lst (ms.map PV.int)]).length = st1.length + 1 := by simp
  generalize (st1 ++ [Ob.lst (ms.map PV.int)]) = st2 at *
  rw [w_lc, lk_list (n := st1.length) rfl h2]
  simp only [setLk]
  repeat walk_at "d"
  refine Wo_srcL h2 ?_
  refine W_comp (fun v => match v with | .int i => decide ((10 : Int) ^ (18 : Int).toNat ≤ if i < 0 then -i else i) | _ => false) (fun v => match v with | .int i => .int (if i < 0 then -i else i) | v => v) (okG_one h2) (by simp; omega) (fun x hx => ?_) ?_
  · obtain ⟨i, _, rfl⟩ := List.mem_map.mp hx
    refine ⟨_, rfl, wB_T ?_, fun _ => ?_⟩
    · repeat walk_at "d"
      exact ⟨rfl, rfl⟩
    · change wE _ _ _ _
      repeat walk_at "d"
      exact ⟨rfl, rfl⟩
  rw [filter_ints (fun i => decide ((10 : Int) ^ (18 : Int).toNat ≤ if i < 0 then -i else i)), map_ints, List.nil_append]
  have lgr : ((ms.filter fun i => decide ((10 : Int) ^ (18 : Int).toNat ≤ if i < 0 then -i else i)).map fun i => if i < 0 then -i else i).length ≤ 1000 := by
    rw [List.length_map]
    have := List.length_filter_le (fun i => decide ((10 : Int) ^ (18 : Int).toNat ≤ if i < 0 then -i else i)) ms
    omega
  generalize ((ms.filter fun i => decide ((10 : Int) ^ (18 : Int).toNat ≤ if i < 0 then -i else i)).map fun i => if i < 0 then -i else i) = gr at *
  repeat walk_at "d"
  have h3 : (st2 ++ [Ob.lst (gr.map PV.int)])[st2.length]? = some (.lst (gr.map PV.int)) := app_new
  have h2' : (st2 ++ [Ob.lst (gr.map PV.int)])[st1.length]? = some (.lst (ms.map PV.int)) := app_get h2
  have f3 : Fr [] st2 (st2 ++ [Ob.lst (gr.map PV.int)]) := Fr.app _
  have l3 : (st2 ++ [Ob.lst (gr.map PV.int)]).length = st2.length + 1 := by simp
  generalize (st2 ++ [Ob.lst (gr.map PV.int)]) = st3 at *
  rw [w_lc, lk_list (n := st1.length) rfl h2']
  simp only [setLk]
  repeat walk_at "d"
  refine Wo_srcL h2' ?_
  refine W_comp (fun v => match v with | .int i => decide ((if i < 0 then -i else i) < (10 : Int) ^ (18 : Int).toNat) | _ => false) (fun v => match v with | .int i => .int (i % 1000000007) | v => v) (okG_one h2') (by simp; omega) (fun x hx => ?_) ?_
  · obtain ⟨i, _, rfl⟩ := List.mem_map.mp hx
    refine ⟨_, rfl, wB_T ?_, fun _ => ?_⟩
    · repeat walk_at "d"
      exact ⟨rfl, rfl⟩
    · change wE _ _ _ _
      repeat walk_at "d"
      exact ⟨rfl, rfl⟩
  rw [filter_ints (fun i => decide ((if i < 0 then -i else i) < (10 : Int) ^ (18 : Int).toNat)), map_ints, List.nil_append]
  have lsm : ((ms.filter fun i => decide ((if i < 0 then -i else i) < (10 : Int) ^ (18 : Int).toNat)).map fun i => i % 1000000007).length ≤ 1000 := by
    rw [List.length_map]
    have := List.length_filter_le (fun i => decide ((if i < 0 then -i else i) < (10 : Int) ^ (18 : Int).toNat)) ms
    omega
  generalize ((ms.filter fun i => decide ((if i < 0 then -i else i) < (10 : Int) ^ (18 : Int).toNat)).map fun i => i % 1000000007) = sm at *
  repeat walk_at "d"
  have h4 : (st3 ++ [Ob.lst (sm.map PV.int)])[st3.length]? = some (.lst (sm.map PV.int)) := app_new
  have h2'' : (st3 ++ [Ob.lst (sm.map PV.int)])[st1.length]? = some (.lst (ms.map PV.int)) := app_get h2'
  have h3' : (st3 ++ [Ob.lst (sm.map PV.int)])[st2.length]? = some (.lst (gr.map PV.int)) := app_get h3
  have f4 : Fr [] st3 (st3 ++ [Ob.lst (sm.map PV.int)]) := Fr.app _
  have l4 : (st3 ++ [Ob.lst (sm.map PV.int)]).length = st3.length + 1 := by simp
  generalize (st3 ++ [Ob.lst (sm.map PV.int)]) = st4 at *
  repeat walk_at "d"
  have h5 : (st4 ++ [Ob.lst [PV.int (((ms.map PV.int).length : Int) + 1)]])[st4.length]? = some (.lst [PV.int (((ms.map PV.int).length : Int) + 1)]) := app_new
  have h4' := app_get (x := [Ob.lst [PV.int (((ms.map PV.int).length : Int) + 1)]]) h4
  have h3'' := app_get (x := [Ob.lst [PV.int (((ms.map PV.int).length : Int) + 1)]]) h3'
  have f5 : Fr [] st4 (st4 ++ [Ob.lst [PV.int (((ms.map PV.int).length : Int) + 1)]]) := Fr.app _
  have l5 : (st4 ++ [Ob.lst [PV.int (((ms.map PV.int).length : Int) + 1)]]).length = st4.length + 1 := by simp
  generalize (st4 ++ [Ob.lst [PV.int (((ms.map PV.int).length : Int) + 1)]]) = st5 at *
  refine W_addL h4' h5 (by simp; omega) ?_
  have e6 : sm.map PV.int ++ [PV.int (((ms.map PV.int).length : Int) + 1)] = (sm ++ [(((ms.map PV.int).length : Int) + 1)]).map PV.int := by simp
  rw [e6]
  generalize hs6 : sm ++ [(((ms.map PV.int).length : Int) + 1)] = sm2
  have ne6 : sm2 ≠ [] := by rw [← hs6]; simp
  have h6 : (st5 ++ [Ob.lst (sm2.map PV.int)])[st5.length]? = some (.lst (sm2.map PV.int)) := app_new
  have h36 := app_get (x := [Ob.lst (sm2.map PV.int)]) h3''
  have f6 : Fr [] st5 (st5 ++ [Ob.lst (sm2.map PV.int)]) := Fr.app _
  have l6 : (st5 ++ [Ob.lst (sm2.map PV.int)]).length = st5.length + 1 := by simp
  generalize (st5 ++ [Ob.lst (sm2.map PV.int)]) = st6 at *
  repeat walk_at "d"
  refine W_sumL h6 ?_
  repeat walk_at "d"
  refine k _ st2.length st5.length _ ⟨by omega, by omega, by omega, 0, _, gr, sm2, app_new, app_get h36, app_get h6, ne6, lgr⟩ (by omega) (by omega) (by omega) ?_
  exact (((((f1.trans f2).trans f3).trans f4).trans f5).trans f6).trans (Fr.app _)
end Den

/-! VcK: walks over dicts. -/
namespace Den
open PySem L2
local macro_rules | `(tactic| walk_at "d") => `(tactic| first
  | ((with_reducible refine' i_loc ?h ?_); case h => exact rfl)
  | with_reducible refine w_seq.mpr ?_ | with_reducible refine w_set.mpr ?_ | with_reducible refine w_ex.mpr ?_ | with_reducible refine w_ret.mpr ?_ | with_reducible refine w_site.mpr ?_ | with_reducible refine w_asgn.mpr ?_ | with_reducible refine w_asgs.mpr ?_ | with_reducible refine w_asgT.mpr ?_
  | with_reducible refine w_skip.mpr ?_ | with_reducible refine sk_nx ?_ | with_reducible refine sk_ret ?_ | with_reducible refine sk_brk ?_ | with_reducible refine sk_cont ?_ | with_reducible refine rk_ret ?_ | with_reducible refine rk_nx ?_ | with_reducible refine tk_tup ?_
  | with_reducible refine bk_bl ?_ | with_reducible refine w_tnm.mpr ?_ | with_reducible refine w_tsub.mpr ?_ | with_reducible refine w_tnil.mpr ?_ | with_reducible refine wB_W.mpr ?_ | with_reducible refine w_con.mpr ?_ | with_reducible refine w_app.mpr ?_ | with_reducible refine w_cons.mpr ?_
  | with_reducible refine w_nil.mpr ?_ | with_reducible refine w_and.mpr ?_ | with_reducible refine w_or.mpr ?_ | with_reducible refine w_ite.mpr ?_ | with_reducible refine w_chn.mpr ?_ | with_reducible refine w_mth.mpr ?_ | with_reducible refine w_ofl.mpr ?_ | with_reducible refine w_ixl.mpr ?_
  | with_reducible refine w_dsp.mpr ?_ | with_reducible refine w_lapp.mpr ?_ | with_reducible refine w_ival.mpr ?_ | with_reducible refine w_irng.mpr ?_ | with_reducible refine w_ienu.mpr ?_ | with_reducible refine w_iofl.mpr ?_ | with_reducible refine i_T ?_ | with_reducible refine i_F ?_
  | with_reducible refine W_add ?_ | with_reducible refine W_sub ?_ | with_reducible refine W_addI ?_ | with_reducible refine W_subI ?_ | with_reducible refine W_neg ?_ | with_reducible refine W_not ?_ | with_reducible refine W_int ?_ | with_reducible refine W_abs ?_
  | with_reducible refine W_lt ?_ | with_reducible refine W_le ?_ | with_reducible refine W_gt ?_ | with_reducible refine W_ge ?_ | with_reducible refine W_eqI ?_ | with_reducible refine W_neI ?_ | with_reducible refine W_isN ?_ | with_reducible refine W_notN ?_
  | with_reducible refine W_tup ?_ | with_reducible refine W_gLst ?_ | with_reducible refine W_gTup ?_ | with_reducible refine W_gLen ?_ | with_reducible refine W_dic0 ?_ | with_reducible refine W_lenT ?_ | with_reducible refine W_tupT ?_ | with_reducible refine W_liT ?_
  | with_reducible refine W_slHT ?_ | with_reducible refine W_slLT ?_ | with_reducible refine W_slHS ?_ | with_reducible refine Wo_srcT ?_
  | ((with_reducible refine' W_mul ?h ?_); case h => first | exact .inr (.inl (by decide)) | exact .inl (by decide) | exact .inl (by omega))
  | ((with_reducible refine' W_div ?h ?_); case h => decide)
  | ((with_reducible refine' W_mod ?h ?_); case h => decide)
  | ((with_reducible refine' W_pow ?h ?_); case h => decide)
  | ((with_reducible refine' W_ixL ?h ?k ?_); (case h => assumption); (case k => first | exact atI_0 | exact atI_1 | exact atI_2 | exact atI_3 | assumption))
  | ((with_reducible refine' W_lenL ?h ?_); case h => assumption))

theorem set_self {st : Store} {n : Nat} {o : Ob} (h : st[n]? = some o) : st.set n o = st := by
  apply List.ext_getElem?
  intro i
  by_cases e : n = i
  · subst e
    rw [List.getElem?_set_self (List.getElem?_eq_some_iff.mp h).1, h]
  · rw [List.getElem?_set_ne e]
theorem lk_dict {i n : Nat} {env : Env} {st : Store} {lk : Bool} {kvs : List (Key × PV)} (h : env[i]? = some (some (.ref n))) (hd : st[n]? = some (.dic lk kvs)) : lkOf (.val (.loc i)) env st = if lk then none else some n := by
  cases lk <;> simp [lkOf, h, hd]
theorem lk_on {n : Nat} {st : Store} {lk : Bool} {kvs : List (Key × PV)} (hd : st[n]? = some (.dic lk kvs)) : setLk true st (if lk then none else some n) = st.set n (.dic true kvs) := by
  cases lk with
  | true => simp only [if_true, setLk]; exact (set_self hd).symm
  | false => simp [setLk, hd]
theorem lk_off {n : Nat} {s : Store} {lk : Bool} {kvs : List (Key × PV)} (hd : s[n]? = some (.dic true kvs)) : setLk false s (if lk then none else some n) = s.set n (.dic lk kvs) := by
  cases lk with
  | true => simp only [if_true, setLk]; exact (set_self hd).symm
  | false => simp [setLk, hd]
theorem lk_back {n : Nat} {st : Store} {lk : Bool} {kvs : List (Key × PV)} (hd : st[n]? = some (.dic lk kvs)) : (st.set n (.dic true kvs)).set n (.dic lk kvs) = st := by
  rw [List.set_set]; exact set_self hd
/-- for x in d, an invariant over the locked dict -/
theorem w_forD {i n : Nat} {g : Tg} {b : S} {env : Env} {st : Store} {lk : Bool} {kvs : List (Key × PV)} {P : Flow → Env → Store → Prop} (I : Nat → Env → Store → Prop) (h : env[i]? = some (some (.ref n))) (hd : st[n]? = some (.dic lk kvs))
    (h0 : I 0 env (st.set n (.dic true kvs))) (hl : ∀ j e s, I j e s → s[n]? = some (.dic true kvs))
    (hs : ∀ (j : Nat) (k : Key) (v : PV) e s, kvs[j]? = some (k, v) → I j e s → ∃ e1, bindT g e (kP k) = some e1 ∧ wS b e1 s fun f e2 s2 => match f with
      | .nx => I (j + 1) e2 s2 | .cont => I (j + 1) e2 s2 | .brk => s2[n]? = some (.dic true kvs) ∧ P .nx e2 (s2.set n (.dic lk kvs)) | .ret v => s2[n]? = some (.dic true kvs) ∧ P (.ret v) e2 (s2.set n (.dic lk kvs)))
    (hf : ∀ e s, I kvs.length e s → P .nx e (s.set n (.dic lk kvs))) : wS (.for (.val (.loc i)) g b) env st P := by
  rw [w_for, lk_dict h hd, lk_on hd]
  refine w_ival.mpr (i_loc h ?_)
  refine Wo_srcD (set_eq hd) ?_
  refine for_inv (P := fun f e2 s2 => P f e2 (setLk false s2 (if lk then none else some n))) I (k := 0) (n := kvs.length) (by simp) h0 (fun j x e s hx hI => ?_) (fun e s hI => ⟨rfl, ?_⟩)
  · rw [Nat.zero_add] at hI ⊢
    simp only [List.getElem?_map] at hx
    cases hk : kvs[j]? with
    | none => simp [hk] at hx
    | some kv =>
      obtain ⟨k, v⟩ := kv
      rw [hk] at hx
      have : kP k = x := by simpa using hx
      subst this
      obtain ⟨e1, he, hw⟩ := hs j k v e s hk hI
      refine ⟨rfl, e1, he, wF.mono hw fun f e2 s2 q => ?_⟩
      cases f with
      | nx => exact q
      | cont => exact q
      | brk => simp only at q ⊢; rw [lk_off q.1]; exact q.2
      | ret v => simp only at q ⊢; rw [lk_off q.1]; exact q.2
  · show P .nx e (setLk false s (if lk then none else some n))
    rw [lk_off (hl _ _ _ hI)]
    exact hf e s hI
/-- [.. for x in d], nothing changed -/
theorem w_lcD {i n : Nat} {g : Tg} {own : List Nat} {ts : Es} {e : E} {env : Env} {st : Store} {lk : Bool} {kvs : List (Key × PV)} {P : List PV → Store → Prop} (t : PV → Bool) (f : PV → PV) (h : env[i]? = some (some (.ref n))) (hd : st[n]? = some (.dic lk kvs)) (hl : kvs.length ≤ 16000000)
    (hs : ∀ (k : Key) (v : PV), (k, v) ∈ kvs → ∃ e1, bindT g (wipe env own) (kP k) = some e1 ∧ W (dTs ts e1 (st.set n (.dic true kvs))) (fun b s => b = t (kP k) ∧ s = st.set n (.dic true kvs)) ∧ (t (kP k) = true → wE e e1 (st.set n (.dic true kvs)) fun v s => v = f (kP k) ∧ s = st.set n (.dic true kvs)))
    (p : P (((kvs.map fun q => kP q.1).filter t).map f) st) : wL (.lc (.val (.loc i)) g own ts e) env st P := by
  rw [w_lc, lk_dict h hd, lk_on hd]
  refine w_ival.mpr (i_loc h ?_)
  refine Wo_srcD (set_eq hd) ?_
  refine W_comp t f rfl (by simpa using hl) (fun x hx => ?_) ?_
  · obtain ⟨kv, hk, rfl⟩ := List.mem_map.mp hx
    exact hs kv.1 kv.2 hk
  · rw [lk_off (set_eq hd), lk_back hd, List.nil_append]
    exact p
end Den

/-! VcN: new objects at opaque places; loops and comprehensions by an invariant, in one form. -/
namespace Den
open PySem L2
/-- the length of a store, for omega -/
theorem Fr.ne {ps : List Nat} {st s : Store} (f : Fr ps st s) {m n : Nat} {o : Ob} (h : st[m]? = some o) (hn : st.length ≤ n) : m ≠ n := by
  have := (List.getElem?_eq_some_iff.mp h).1
  omega
theorem at_lt {st : Store} {m : Nat} {o : Ob} (h : st[m]? = some o) : m < st.length := (List.getElem?_eq_some_iff.mp h).1
theorem nm_cons {m a : Nat} {l : List Nat} (h : m ≠ a) (k : m ∉ l) : m ∉ a :: l := by simp [h, k]
theorem nm_one {m a : Nat} (h : m ≠ a) : m ∉ [a] := by simp [h]
theorem nm_two {m a b : Nat} (h : m ≠ a) (k : m ≠ b) : m ∉ [a, b] := by simp [h, k]
theorem ne_kind {st : Store} {m n : Nat} {o u : Ob} (h : st[m]? = some o) (k : st[n]? = some u) (d : o ≠ u) : m ≠ n := fun e => by
  subst e
  rw [h] at k
  exact d (Option.some.inj k)
/-- what is put back has not changed -/
theorem Fr.back {ps : List Nat} {m : Nat} {st s : Store} {o : Ob} (f : Fr (m :: ps) st s) (h : st[m]? = some o) (k : s[m]? = some o) : Fr ps st s := ⟨f.le, fun i hi hp => by
  by_cases e : i = m
  · subst e; rw [h, k]
  · exact f.eq i hi (nm_cons e hp)⟩
theorem Pot.app {p g s : Nat} {st x : Store} (h : Pot p g s st) : Pot p g s (st ++ x) := h.fr (Fr.app (ps := []) x) (by simp) (by simp) (by simp)
theorem Pot.lt {p g s : Nat} {st : Store} (h : Pot p g s st) : p < st.length ∧ g < st.length ∧ s < st.length := by
  obtain ⟨lap, k, gr, sm, hp, hg, hs, _⟩ := h.ex
  exact ⟨(List.getElem?_eq_some_iff.mp hp).1, (List.getElem?_eq_some_iff.mp hg).1, (List.getElem?_eq_some_iff.mp hs).1⟩
/-- a new object stands at n -/
structure New (st : Store) (n : Nat) (s : Store) (o : Ob) : Prop where
  get : s[n]? = some o
  le : st.length ≤ n
  lt : n < s.length
  fr : Fr [] st s
theorem New.app {st : Store} {o : Ob} : New st st.length (st ++ [o]) o := ⟨app_new, Nat.le_refl _, by simp, Fr.app _⟩
theorem New.ne {st s : Store} {n m : Nat} {o u : Ob} (h : New st n s o) (k : st[m]? = some u) : m ≠ n := by
  have := at_lt k
  have := h.le
  omega
section
variable {i j : Int} {st : Store} {P : PV → Store → Prop} {n : Nat} {xs : List PV} {v : PV} {kvs : List (Key × PV)} {lk : Bool}
theorem nLst (p : ∀ n s, New st n s (.lst xs) → P (.ref n) s) : W (gLst xs st) P := p _ _ .app
theorem nDic0 {xs : List PV} (p : ∀ n s, New st n s (.dic false []) → P (.ref n) s) : W (fDic0 xs st) P := p _ _ .app
theorem nDict (h : st[n]? = Option.some (.dic false kvs)) (p : ∀ n s, New st n s (.dic false kvs) → P (.ref n) s) : W (fDict [.ref n] st) P := W_dict h (p _ _ .app)
theorem nAddL {m : Nat} {xs ys : List PV} (hm : st[m]? = Option.some (.lst xs)) (hn : st[n]? = Option.some (.lst ys)) (h : xs.length + ys.length ≤ 16000000) (p : ∀ n s, New st n s (.lst (xs ++ ys)) → P (.ref n) s) : W (fAdd [.ref m, .ref n] st) P := W_addL hm hn h (p _ _ .app)
theorem nSlHL (h : st[n]? = Option.some (.lst xs)) (p : ∀ n s, New st n s (.lst (cutP xs none (Option.some j))) → P (.ref n) s) : W (fSlH [.ref n, .int j] st) P := W_slHL h (p _ _ .app)
theorem nSlLL (h : st[n]? = Option.some (.lst xs)) (p : ∀ n s, New st n s (.lst (cutP xs (Option.some j) none)) → P (.ref n) s) : W (fSlL [.ref n, .int j] st) P := W_slLL h (p _ _ .app)
theorem nApp (h : st[n]? = Option.some (.lst xs)) (hl : xs.length < 16000000) (p : ∀ s, s[n]? = Option.some (.lst (xs ++ [v])) → Fr [n] st s → P .non s) : W (mAppend [.ref n, v] st) P := W_appd h hl (p _ (set_eq h) (Fr.set (by simp)))
theorem nSetL {y : PV} {Q : Store → Prop} (h : st[n]? = Option.some (.lst xs)) (h0 : 0 ≤ i) (h1 : i < xs.length) (p : ∀ s, s[n]? = Option.some (.lst (xs.set i.toNat y)) → Fr [n] st s → Q s) : Wo (setAt (.ref n) (.int i) y st) Q := Wo_setL h h0 h1 (p _ (set_eq h) (Fr.set (by simp)))
theorem nSetD {x y : PV} {k : Key} {Q : Store → Prop} (h : st[n]? = Option.some (.dic false kvs)) (hk : keyOf x = Option.some k) (hl : kvs.length < 16000000) (p : ∀ s, s[n]? = Option.some (.dic false (putP k y kvs)) → Fr [n] st s → Q s) : Wo (setAt (.ref n) x y st) Q := Wo_setD h hk hl (p _ (set_eq h) (Fr.set (by simp)))
end
/-! ### for -/
def loopK (I : Nat → Env → Store → Prop) (j : Nat) (P : Flow → Env → Store → Prop) (f : Flow) (e : Env) (s : Store) : Prop := match f with
  | .nx => I (j + 1) e s
  | .cont => I (j + 1) e s
  | .brk => P .nx e s
  | .ret v => P (.ret v) e s
section
variable {I : Nat → Env → Store → Prop} {j : Nat} {P : Flow → Env → Store → Prop} {e : Env} {s : Store} {v : PV}
theorem lp_nx (h : I (j + 1) e s) : loopK I j P .nx e s := h
theorem lp_cont (h : I (j + 1) e s) : loopK I j P .cont e s := h
theorem lp_brk (h : P .nx e s) : loopK I j P .brk e s := h
theorem lp_ret (h : P (.ret v) e s) : loopK I j P (.ret v) e s := h
end
theorem w_for0 {t : It} {g : Tg} {b : S} {env : Env} {st : Store} {P : Flow → Env → Store → Prop} (h : lkOf t env st = none) (k : wI t env st fun src s1 => wF (forL (fun e x => bindT g e x) (okG src.gd) (fun e s => dS b e s) src.xs env s1) P) : wS (.for t g b) env st P := by
  rw [w_for, h]
  exact k
theorem for_I {g : Tg} {b : S} {gd : List (Nat × List PV)} {xs : List PV} {env : Env} {st : Store} {P : Flow → Env → Store → Prop} (I : Nat → Env → Store → Prop) (h0 : I 0 env st)
    (hs : ∀ j x e s, xs[j]? = some x → I j e s → okG gd s = true ∧ ∃ e1, bindT g e x = some e1 ∧ wS b e1 s (loopK I j P)) (hf : ∀ e s, I xs.length e s → okG gd s = true ∧ P .nx e s) :
    wF (forL (fun e x => bindT g e x) (okG gd) (fun e s => dS b e s) xs env st) P := by
  refine for_inv I (k := 0) (n := xs.length) (by simp) h0 (fun j x e s hx hI => ?_) hf
  rw [Nat.zero_add] at hI ⊢
  obtain ⟨a, e1, he, hw⟩ := hs j x e s hx hI
  refine ⟨a, e1, he, wF.mono hw fun f e2 s2 q => ?_⟩
  cases f <;> exact q
theorem for_T {g : Tg} {b : S} {xs : List PV} {env : Env} {st : Store} {P : Flow → Env → Store → Prop} (I : Nat → Env → Store → Prop) (h0 : I 0 env st)
    (hs : ∀ j x e s, xs[j]? = some x → I j e s → ∃ e1, bindT g e x = some e1 ∧ wS b e1 s (loopK I j P)) (hf : ∀ e s, I xs.length e s → P .nx e s) :
    wF (forL (fun e x => bindT g e x) (okG []) (fun e s => dS b e s) xs env st) P := for_I I h0 (fun j x e s hx hI => ⟨rfl, hs j x e s hx hI⟩) fun e s hI => ⟨rfl, hf e s hI⟩
/-- a walk over a list that stays -/
theorem for_L {g : Tg} {b : S} {n : Nat} {xs : List PV} {env : Env} {st : Store} {P : Flow → Env → Store → Prop} (I : Nat → Env → Store → Prop) (h0 : I 0 env st) (hk : ∀ j e s, I j e s → s[n]? = some (.lst xs))
    (hs : ∀ j x e s, xs[j]? = some x → I j e s → ∃ e1, bindT g e x = some e1 ∧ wS b e1 s (loopK I j P)) (hf : ∀ e s, I xs.length e s → P .nx e s) :
    wF (forL (fun e x => bindT g e x) (okG [(n, xs)]) (fun e s => dS b e s) xs env st) P := for_I I h0 (fun j x e s hx hI => ⟨okG_one (hk j e s hI), hs j x e s hx hI⟩) fun e s hI => ⟨okG_one (hk _ e s hI), hf e s hI⟩
/-- a walk over a range -/
theorem for_R {i : Nat} {b : S} {a z : Int} {env : Env} {st : Store} {P : Flow → Env → Store → Prop} (I : Nat → Env → Store → Prop) (h0 : I 0 env st)
    (hs : ∀ (j : Nat) e s, (j : Int) < z - a → I j e s → wS b (e.set i (some (.int (a + j)))) s (loopK I j P)) (hf : ∀ e s, I (z - a).toNat e s → P .nx e s) :
    wF (forL (fun e x => bindT (.nm i) e x) (okG []) (fun e s => dS b e s) (rngI a z) env st) P := for_T I h0 (fun j x e s hx hI => by
      obtain ⟨rfl, hj⟩ := rngI_at hx
      exact ⟨_, rfl, hs j e s (by omega) hI⟩) fun e s hI => hf e s (by rw [rngI_len'] at hI; exact hI)
/-- .. over a dict under a name, locked meanwhile -/
theorem for_D {i n : Nat} {g : Tg} {b : S} {env : Env} {st : Store} {lk : Bool} {kvs : List (Key × PV)} {P : Flow → Env → Store → Prop} (I : Nat → Env → Store → Prop) (h : env[i]? = some (some (.ref n))) (hd : st[n]? = some (.dic lk kvs))
    (h0 : ∀ s, s[n]? = some (.dic true kvs) → Fr [n] st s → I 0 env s) (hl : ∀ j e s, I j e s → s[n]? = some (.dic true kvs))
    (hs : ∀ (j : Nat) (k : Key) (v : PV) e s, kvs[j]? = some (k, v) → I j e s → ∃ e1, bindT g e (kP k) = some e1 ∧ wS b e1 s (loopK I j fun f e2 s2 => s2[n]? = some (.dic true kvs) ∧ ∀ s3, s3[n]? = some (.dic lk kvs) → Fr [n] s2 s3 → P f e2 s3))
    (hf : ∀ e s, I kvs.length e s → ∀ s3, s3[n]? = some (.dic lk kvs) → Fr [n] s s3 → P .nx e s3) : wS (.for (.val (.loc i)) g b) env st P := by
  refine w_forD I h hd (h0 _ (set_eq hd) (Fr.set (by simp))) hl (fun j k v e s hk hI => ?_) fun e s hI => hf e s hI _ (set_eq (hl _ _ _ hI)) (Fr.set (by simp))
  obtain ⟨e1, he, hw⟩ := hs j k v e s hk hI
  refine ⟨e1, he, wF.mono hw fun f e2 s2 q => ?_⟩
  cases f with
  | nx => exact q
  | cont => exact q
  | brk => exact ⟨q.1, q.2 _ (set_eq q.1) (Fr.set (by simp))⟩
  | ret v => exact ⟨q.1, q.2 _ (set_eq q.1) (Fr.set (by simp))⟩
/-! ### comprehensions -/
theorem w_lc0 {t : It} {g : Tg} {own : List Nat} {ts : Es} {e : E} {env : Env} {st : Store} {P : List PV → Store → Prop} (h : lkOf t env st = none)
    (k : wI t env st fun src s1 => W (compL (bindT g (wipe env own)) (okG src.gd) (fun e' s => dTs ts e' s) (fun e' s => dE e e' s) src.xs [] s1) P) : wL (.lc t g own ts e) env st P := by
  rw [w_lc, h]
  exact k
/-- what is made of each item follows from the item; I stays -/
theorem comp_F {bind : PV → Option Env} {gd : List (Nat × List PV)} {ts : Es} {it : E} {P : List PV → Store → Prop} (I : Store → Prop) (t : PV → Bool) (f : PV → PV) : ∀ {xs acc : List PV} {st : Store}, I st → acc.length + xs.length ≤ 16000000 →
    (∀ x ∈ xs, ∃ e, bind x = some e ∧ (∀ s, I s → okG gd s = true ∧ W (dTs ts e s) fun b s' => b = t x ∧ I s') ∧ (t x = true → ∀ s, I s → wE it e s fun v s' => v = f x ∧ I s')) →
    (∀ s, I s → okG gd s = true ∧ P (acc ++ (xs.filter t).map f) s) → W (compL bind (okG gd) (fun e' s => dTs ts e' s) (fun e' s => dE it e' s) xs acc st) P
  | [], acc, st, hI, _, _, p => by
    unfold compL
    rw [if_pos (p st hI).1]
    simpa using (p st hI).2
  | x :: xs, acc, st, hI, hl, h, p => by
    obtain ⟨e, he, ht, hi⟩ := h x List.mem_cons_self
    unfold compL
    obtain ⟨hok, ht⟩ := ht st hI
    rw [if_pos hok, he, Option.bind_some]
    obtain ⟨b, s, hb, rfl, hI'⟩ := W.some ht
    rw [hb, Option.bind_some]
    cases hx : t x with
    | false =>
      simp only [Bool.false_eq_true, if_false]
      refine comp_F I t f hI' (by simp at hl ⊢; omega) (fun y hy => h y (List.mem_cons_of_mem _ hy)) ?_
      rw [List.filter_cons_of_neg (by simp [hx])] at p
      exact p
    | true =>
      simp only [if_true]
      obtain ⟨y, s2, hy, rfl, hI2⟩ := W.some (hi hx s hI')
      rw [hy, Option.bind_some]
      simp only
      rw [if_pos (by simp at hl; omega)]
      refine comp_F I t f hI2 (by simp at hl ⊢; omega) (fun y hy => h y (List.mem_cons_of_mem _ hy)) ?_
      rw [List.filter_cons_of_pos hx] at p
      simpa using p
/-- no test; what is made is related to the item; I stays -/
theorem comp_R {bind : PV → Option Env} {gd : List (Nat × List PV)} {it : E} {P : List PV → Store → Prop} (I : Store → Prop) (R : PV → PV → Prop) : ∀ {xs acc : List PV} {st : Store}, I st → acc.length + xs.length ≤ 16000000 →
    (∀ x ∈ xs, ∃ e, bind x = some e ∧ ∀ s, I s → okG gd s = true ∧ wE it e s fun v s' => R x v ∧ I s') →
    (∀ s ys, I s → ys.length = xs.length → (∀ (j : Nat) x, xs[j]? = some x → ∃ y, ys[j]? = some y ∧ R x y) → okG gd s = true ∧ P (acc ++ ys) s) → W (compL bind (okG gd) (fun e' s => dTs .nil e' s) (fun e' s => dE it e' s) xs acc st) P
  | [], acc, st, hI, _, _, p => by
    have := p st [] hI rfl (by simp)
    unfold compL
    rw [if_pos this.1]
    simpa using this.2
  | x :: xs, acc, st, hI, hl, h, p => by
    obtain ⟨e, he, ht⟩ := h x List.mem_cons_self
    unfold compL
    obtain ⟨hok, hi⟩ := ht st hI
    rw [if_pos hok, he, Option.bind_some]
    simp only [dTs, Option.bind_some, if_true]
    obtain ⟨y, s2, hy, hR, hI2⟩ := W.some hi
    rw [hy, Option.bind_some]
    simp only
    rw [if_pos (by simp at hl; omega)]
    refine comp_R I R hI2 (by simp at hl ⊢; omega) (fun y hy => h y (List.mem_cons_of_mem _ hy)) fun s ys hs hlen hat => ?_
    have := p s (y :: ys) hs (by simp [hlen]) (fun j z hz => by
      cases j with
      | zero =>
        have : x = z := by simpa using hz
        subst this
        exact ⟨y, rfl, hR⟩
      | succ j => exact hat j z (by simpa using hz))
    simpa using this
theorem W_isiD {st : Store} {n : Nat} {lk : Bool} {kvs : List (Key × PV)} {P : PV → Store → Prop} (h : st[n]? = some (.dic lk kvs)) (p : P (.bl true) st) : W (fIsi [.ref n, .ty "dict"] st) P := W_of (by
  simp only [fIsi, tyN, h, Option.bind_some]
  rfl) p
theorem W_isiT {st : Store} {xs : List PV} {P : PV → Store → Prop} (p : P (.bl true) st) : W (fIsi [.tup xs, .ty "tuple"] st) P := W_of rfl p
theorem W_isiI {st : Store} {i : Int} {P : PV → Store → Prop} (p : P (.bl true) st) : W (fIsi [.int i, .ty "int"] st) P := W_of rfl p
theorem W_isiB {st : Store} {i : Int} {P : PV → Store → Prop} (p : P (.bl false) st) : W (fIsi [.int i, .ty "bool"] st) P := W_of rfl p
theorem i_ok {b : Bool} {A : Prop} (h : b = true) (p : A) : if b = true then A else False := by rw [if_pos h]; exact p
theorem isLst_at {st : Store} {n : Nat} {xs : List PV} (h : st[n]? = some (.lst xs)) : isLst (.ref n) st = true := by simp [isLst, lstAt, h]
theorem i_B {b : Bool} {A B : Prop} (h : b = true) (p : A) : if b = true then A else B := by rw [if_pos h]; exact p
theorem i_N {b : Bool} {A B : Prop} (h : b = false) (p : B) : if b = true then A else B := by subst h; exact p
end Den

/-! VcO: dict comprehensions over a dict; sorted lines. -/
namespace Den
open PySem L2
theorem w_dc {t : It} {g : Tg} {own : List Nat} {ts : Es} {k v : E} {env : Env} {st : Store} {P : PV → Store → Prop} : wE (.dc t g own ts k v) env st P = wI t env (setLk true st (lkOf t env st)) fun src s1 =>
    W (compD (bindT g (wipe env own)) (okG src.gd) (fun e s => dTs ts e s) (fun e s => dE k e s) (fun e s => dE v e s) src.xs [] s1) fun kvs s2 => P (.ref (setLk false s2 (lkOf t env st)).length) (setLk false s2 (lkOf t env st) ++ [.dic false kvs]) := by
  simp only [wE, wI, dE, W_bind, W_some]
theorem put_app {k : Key} {v : PV} {a : List (Key × PV)} (h : k ∉ a.map (·.1)) : putP k v a = a ++ [(k, v)] := by
  unfold putP
  rw [if_neg]
  intro z
  obtain ⟨q, hq, hk⟩ := List.any_eq_true.mp z
  exact h (List.mem_map.mpr ⟨q, hq, by simpa using hk⟩)
theorem keyOf_kP (k : Key) : keyOf (kP k) = some k := by cases k <;> rfl
/-- {k: f k for k in ks}, I stays -/
theorem compD_F {bind : PV → Option Env} {k v : E} {P : List (Key × PV) → Store → Prop} (I : Store → Prop) (f : Key → PV) : ∀ {ks : List Key} {acc : List (Key × PV)} {st : Store}, I st → (acc.map (·.1) ++ ks).Nodup → acc.length + ks.length ≤ 16000000 →
    (∀ x ∈ ks, ∃ e, bind (kP x) = some e ∧ ∀ s, I s → wE k e s fun z s' => z = kP x ∧ I s' ∧ wE v e s' fun y s'' => y = f x ∧ I s'') →
    (∀ s, I s → P (acc ++ ks.map fun x => (x, f x)) s) → W (compD bind (okG []) (fun e s => dTs .nil e s) (fun e s => dE k e s) (fun e s => dE v e s) (ks.map kP) acc st) P
  | [], acc, st, hI, _, _, _, p => by
    show W (compD _ _ _ _ _ [] acc st) P
    unfold compD
    rw [if_pos (okG_nil st)]
    have := p st hI
    rw [List.map_nil, List.append_nil] at this
    exact this
  | x :: ks, acc, st, hI, hn, hl, h, p => by
    obtain ⟨e, he, hi⟩ := h x List.mem_cons_self
    obtain ⟨z, s', hz, rfl, hI', hv⟩ := W.some (hi st hI)
    obtain ⟨y, s'', hy, rfl, hI''⟩ := W.some hv
    show W (compD _ _ _ _ _ (kP x :: ks.map kP) acc st) P
    unfold compD
    rw [if_pos (okG_nil st), he, Option.bind_some]
    simp only [dTs, Option.bind_some, if_true, hz, hy, keyOf_kP]
    rw [if_pos (by simp at hl; omega)]
    have hx : x ∉ acc.map (·.1) := by
      rw [List.nodup_append] at hn
      exact fun m => hn.2.2 x m x List.mem_cons_self rfl
    rw [put_app hx]
    refine compD_F I f hI'' (by rw [List.map_append]; simpa using hn) (by simp at hl ⊢; omega) (fun y hy => h y (List.mem_cons_of_mem _ hy)) fun s hs => ?_
    have := p s hs
    simpa using this
theorem w_dcD {i n : Nat} {g : Tg} {own : List Nat} {k v : E} {env : Env} {st : Store} {lk : Bool} {kvs : List (Key × PV)} {P : PV → Store → Prop} (f : Key → PV) (h : env[i]? = some (some (.ref n))) (hd : st[n]? = some (.dic lk kvs)) (hn : (kvs.map (·.1)).Nodup) (hl : kvs.length ≤ 16000000)
    (hs : ∀ x ∈ kvs.map (·.1), ∃ e, bindT g (wipe env own) (kP x) = some e ∧ ∀ s, s[n]? = some (.dic true kvs) → Fr [n] st s → wE k e s fun z s' => z = kP x ∧ Fr [] s s' ∧ wE v e s' fun y s'' => y = f x ∧ Fr [] s' s'')
    (p : ∀ r s, New st r s (.dic false ((kvs.map (·.1)).map fun x => (x, f x))) → P (.ref r) s) : wE (.dc (.val (.loc i)) g own .nil k v) env st P := by
  rw [w_dc, lk_dict h hd, lk_on hd]
  refine w_ival.mpr (i_loc h ?_)
  refine Wo_srcD (set_eq hd) ?_
  have e : (kvs.map fun q => kP q.1) = (kvs.map (·.1)).map kP := by rw [List.map_map]; rfl
  simp only [e]
  refine compD_F (fun s => s[n]? = some (.dic true kvs) ∧ Fr [n] st s) f ⟨set_eq hd, Fr.set (by simp)⟩ (by simpa using hn) (by simpa using hl) (fun x hx => ?_) ?_
  · obtain ⟨e, he, hw⟩ := hs x hx
    refine ⟨e, he, fun s hI => W.mono (hw s hI.1 hI.2) fun z s' q => ⟨q.1, ⟨q.2.1.get hI.1 (by simp), hI.2.trans (q.2.1.mono (by simp))⟩, W.mono q.2.2 fun y s'' r => ⟨r.1, r.2.get (q.2.1.get hI.1 (by simp)) (by simp), (hI.2.trans (q.2.1.mono (by simp))).trans (r.2.mono (by simp))⟩⟩⟩
  · rintro s ⟨h1, f1⟩
    rw [List.nil_append]
    have hb := at_lt hd
    have f2 : Fr [] st (setLk false s (if lk then none else some n)) := by
      rw [lk_off h1]
      exact Fr.back (f1.trans (Fr.set (by simp))) hd (set_eq h1)
    exact p _ _ ⟨app_new, f2.le, by simp, f2.trans (Fr.app _)⟩
theorem keysT_map {ks : List Str} {f : Str → PV} : keysT (ks.map fun x => ((Sum.inr x : Key), f x)) = some ks := by
  induction ks with
  | nil => rfl
  | cons a ks ih =>
    show (keysT (ks.map fun x => ((Sum.inr x : Key), f x))).map (a :: ·) = _
    rw [ih]
    rfl
theorem sortS_perm {a b : List Str} (h : a.Perm b) : sortS a = sortS b := by
  refine List.Perm.eq_of_pairwise (le := fun a b => leS a b = true) (fun a b _ _ h k => leS_anti h k) (List.pairwise_mergeSort leS_trans leS_total a) (List.pairwise_mergeSort leS_trans leS_total b) ?_
  exact ((List.mergeSort_perm a leS).trans h).trans (List.mergeSort_perm b leS).symm
theorem sortS_is {a : List Str} : (sortS a).Perm a := List.mergeSort_perm a leS
theorem W_sortD {st : Store} {n : Nat} {ks : List Str} {f : Str → PV} {kvs : List (Key × PV)} {P : List PV → Store → Prop} (h : st[n]? = some (.dic false kvs)) (e : kvs = ks.map fun x => ((Sum.inr x : Key), f x)) (hl : ks.length < 64) (p : P ((sortS ks).map PV.str) st) : W (flSort [.ref n] st) P := by
  subst e
  exact W_of (by simp [flSort, h, keysT_map, hl]) p
theorem asStrs_map : ∀ ss : List Str, asStrs (ss.map PV.str) = some ss
  | [] => rfl
  | s :: ss => by
    show (asStrs (ss.map PV.str)).map _ = _
    rw [asStrs_map ss]
    rfl
theorem W_sortL {st : Store} {n : Nat} {ss : List Str} {P : List PV → Store → Prop} (h : st[n]? = some (.lst (ss.map PV.str))) (h0 : ss ≠ []) (hl : ss.length < 64) (p : P ((sortS ss).map PV.str) st) : W (flSort [.ref n] st) P := by
  have : asInts (ss.map PV.str) = none := by
    cases ss with
    | nil => exact absurd rfl h0
    | cons a ss => rfl
  exact W_of (by simp [flSort, h, mSort, this, asStrs_map, hl]) p
end Den
namespace Den
open PySem L2
theorem w_map {F : List PV → Store → Option (List PV)} {l : Lx} {env : Env} {st : Store} {P : List PV → Store → Prop} : wL (.map F l) env st P = wL l env st fun xs s => Wo (F xs s) fun ys => P ys s := by
  simp only [wL, dL, W_bind]
  congr 1
  funext xs s
  cases F xs s <;> rfl
theorem Wo_sort {ss : List Str} {s : Store} {P : List PV → Prop} (h0 : ss ≠ []) (hl : ss.length < 64) (p : P ((sortS ss).map PV.str)) : Wo (mSort (ss.map PV.str) s) P := by
  have : asInts (ss.map PV.str) = none := by
    cases ss with
    | nil => exact absurd rfl h0
    | cons a ss => rfl
  exact Wo_of (by simp only [mSort, this, asStrs_map, Option.bind_some, if_pos hl]) p
theorem W_liD {st : Store} {n : Nat} {kvs : List (Key × PV)} {P : List PV → Store → Prop} (h : st[n]? = some (.dic false kvs)) (p : P (kvs.map fun q => kP q.1) st) : W (flList [.ref n] st) P := W_of (by simp [flList, h]) p
end Den

/-! VcP: zips, comprehensions of two clauses, all of a line, attributes. -/
namespace Den
open PySem L2
def zipK (P : Src → Store → Prop) (v w : PV) (s : Store) : Prop := match v, w with
  | .tup xs, .tup ys => P ⟨zipI xs ys, []⟩ s
  | .ref m, .ref n => Wo ((seqOf (.ref m) s).bind fun p => (seqOf (.ref n) s).bind fun q => some (p, q)) fun pq => P ⟨zipI pq.1.1 pq.2.1, pq.1.2 ++ pq.2.2⟩ s
  | .tup xs, .ref n => Wo (seqOf (.ref n) s) fun q => P ⟨zipI xs q.1, q.2⟩ s
  | .ref m, .tup ys => Wo (seqOf (.ref m) s) fun p => P ⟨zipI p.1 ys, p.2⟩ s
  | _, _ => False
theorem zk_tt {P : Src → Store → Prop} {xs ys : List PV} {s : Store} (p : P ⟨zipI xs ys, []⟩ s) : zipK P (.tup xs) (.tup ys) s := p
theorem seq_lst {s : Store} {n : Nat} {xs : List PV} (h : s[n]? = some (.lst xs)) : seqOf (.ref n) s = some (xs, [(n, xs)]) := by simp only [seqOf, h]
theorem zk_tl {P : Src → Store → Prop} {xs ys : List PV} {n : Nat} {s : Store} (h : s[n]? = some (.lst ys)) (p : P ⟨zipI xs ys, [(n, ys)]⟩ s) : zipK P (.tup xs) (.ref n) s := Wo_of (seq_lst h) p
theorem zk_lt {P : Src → Store → Prop} {xs ys : List PV} {n : Nat} {s : Store} (h : s[n]? = some (.lst xs)) (p : P ⟨zipI xs ys, [(n, xs)]⟩ s) : zipK P (.ref n) (.tup ys) s := Wo_of (seq_lst h) p
theorem zk_ll {P : Src → Store → Prop} {xs ys : List PV} {m n : Nat} {s : Store} (h : s[m]? = some (.lst xs)) (h' : s[n]? = some (.lst ys)) (p : P ⟨zipI xs ys, [(m, xs), (n, ys)]⟩ s) : zipK P (.ref m) (.ref n) s := Wo_of (a := ((xs, [(m, xs)]), (ys, [(n, ys)]))) (by simp only [seq_lst h, seq_lst h', Option.bind_some]) p
theorem w_izip {a b : E} {env : Env} {st : Store} {P : Src → Store → Prop} : wI (.zip a b) env st P = wE a env st fun v s1 => wE b env s1 fun w s2 => zipK P v w s2 := by
  simp only [wI, wE, dI, W_bind]
  congr 1
  funext v s1
  congr 1
  funext w s2
  cases v <;> cases w <;> first | rfl | skip
  · rename_i xs n
    show W ((seqOf (.ref n) s2).bind _) P = Wo (seqOf (.ref n) s2) _
    cases seqOf (.ref n) s2 <;> rfl
  · rename_i m ys
    show W ((seqOf (.ref m) s2).bind _) P = Wo (seqOf (.ref m) s2) _
    cases seqOf (.ref m) s2 <;> rfl
  · rename_i m n
    show W ((seqOf (.ref m) s2).bind _) P = Wo ((seqOf (.ref m) s2).bind _) _
    cases seqOf (.ref m) s2 with
    | none => rfl
    | some p => cases seqOf (.ref n) s2 <;> rfl
def zip3K (P : Src → Store → Prop) (v w z : PV) (s : Store) : Prop := match v, w, z with
  | .tup xs, .tup ys, .tup zs => P ⟨zip3I xs ys zs, []⟩ s
  | _, _, _ => False
theorem z3_t {P : Src → Store → Prop} {xs ys zs : List PV} {s : Store} (p : P ⟨zip3I xs ys zs, []⟩ s) : zip3K P (.tup xs) (.tup ys) (.tup zs) s := p
theorem w_izip3 {a b c : E} {env : Env} {st : Store} {P : Src → Store → Prop} : wI (.zip3 a b c) env st P = wE a env st fun v s1 => wE b env s1 fun w s2 => wE c env s2 fun z s3 => zip3K P v w z s3 := by
  simp only [wI, wE, dI, W_bind]
  congr 1
  funext v s1
  congr 1
  funext w s2
  congr 1
  funext z s3
  cases v <;> cases w <;> cases z <;> rfl
theorem zipI_at : ∀ {xs ys : List PV} {i : Nat} {x : PV}, (zipI xs ys)[i]? = some x → ∃ a b, xs[i]? = some a ∧ ys[i]? = some b ∧ x = .tup [a, b]
  | [], _, _, _, h => by simp [zipI] at h
  | _ :: _, [], _, _, h => by simp [zipI] at h
  | a :: xs, b :: ys, 0, x, h => ⟨a, b, rfl, rfl, by simpa [zipI] using h.symm⟩
  | a :: xs, b :: ys, i + 1, x, h => by
    obtain ⟨c, d, e, f, g⟩ := zipI_at (xs := xs) (ys := ys) (i := i) (x := x) (by simpa [zipI] using h)
    exact ⟨c, d, by simpa using e, by simpa using f, g⟩
theorem zipI_l : ∀ {xs ys : List PV}, (zipI xs ys).length = min xs.length ys.length
  | [], ys => by simp [zipI]
  | _ :: _, [] => by simp [zipI]
  | a :: xs, b :: ys => by show (zipI xs ys).length + 1 = _; rw [zipI_l]; simp only [List.length_cons]; omega
theorem zip3I_at : ∀ {xs ys zs : List PV} {i : Nat} {x : PV}, (zip3I xs ys zs)[i]? = some x → ∃ a b c, xs[i]? = some a ∧ ys[i]? = some b ∧ zs[i]? = some c ∧ x = .tup [a, b, c]
  | [], _, _, _, _, h => by simp [zip3I] at h
  | _ :: _, [], _, _, _, h => by simp [zip3I] at h
  | _ :: _, _ :: _, [], _, _, h => by simp [zip3I] at h
  | a :: xs, b :: ys, c :: zs, 0, x, h => ⟨a, b, c, rfl, rfl, rfl, by simpa [zip3I] using h.symm⟩
  | a :: xs, b :: ys, c :: zs, i + 1, x, h => by
    obtain ⟨p, q, r, e, f, g, k⟩ := zip3I_at (xs := xs) (ys := ys) (zs := zs) (i := i) (x := x) (by simpa [zip3I] using h)
    exact ⟨p, q, r, by simpa using e, by simpa using f, by simpa using g, k⟩
theorem zip3I_l : ∀ {xs ys zs : List PV}, (zip3I xs ys zs).length = min xs.length (min ys.length zs.length)
  | [], ys, zs => by simp [zip3I]
  | _ :: _, [], zs => by simp [zip3I]
  | _ :: _, _ :: _, [] => by simp [zip3I]
  | a :: xs, b :: ys, c :: zs => by show (zip3I xs ys zs).length + 1 = _; rw [zip3I_l]; simp only [List.length_cons]; omega
theorem enumI_at : ∀ {xs : List PV} {k i : Nat} {x : PV}, (enumI k xs)[i]? = some x → ∃ y, xs[i]? = some y ∧ x = .tup [.int ((k + i : Nat) : Int), y]
  | [], _, _, _, h => by simp [enumI] at h
  | a :: xs, k, 0, x, h => ⟨a, rfl, by simpa [enumI] using h.symm⟩
  | a :: xs, k, i + 1, x, h => by
    obtain ⟨y, e, f⟩ := enumI_at (xs := xs) (k := k + 1) (i := i) (x := x) (by simpa [enumI] using h)
    exact ⟨y, by simpa using e, by rw [f]; congr 3; omega⟩
theorem enumI_l : ∀ {xs : List PV} {k : Nat}, (enumI k xs).length = xs.length
  | [], _ => rfl
  | a :: xs, k => by show (enumI (k + 1) xs).length + 1 = _; rw [enumI_l]; rfl
/-! ### comprehensions -/
/-- all([..]): each True -/
theorem comp_T {bind : PV → Option Env} {gd : List (Nat × List PV)} {it : E} {st : Store} {P : PV → Store → Prop} {xs : List PV} (hg : okG gd st = true) (hl : xs.length ≤ 16000000) (h : ∀ x ∈ xs, ∃ e, bind x = some e ∧ wE it e st fun v s' => v = .bl true ∧ s' = st) (p : P (.bl true) st) :
    W (compL bind (okG gd) (fun e' s => dTs .nil e' s) (fun e' s => dE it e' s) xs [] st) fun ys s => W (gAll ys s) P := by
  refine comp_F (fun s => s = st) (fun _ => true) (fun _ => .bl true) rfl (by simpa using hl) (fun x hx => ?_) fun s hs => ?_
  · obtain ⟨e, he, hw⟩ := h x hx
    refine ⟨e, he, fun s hs => ?_, fun _ s hs => ?_⟩
    · subst hs; exact ⟨hg, wB_nil⟩
    · subst hs; exact hw
  · subst hs
    refine ⟨hg, ?_⟩
    rw [filter_true, List.nil_append]
    have : ∀ l : List PV, asBools (l.map fun _ => PV.bl true) = some (l.map fun _ => true) := fun l => by
      induction l with
      | nil => rfl
      | cons a l ih =>
        show (asBools (l.map fun _ => PV.bl true)).map _ = _
        rw [ih]; rfl
    refine W_of (by simp only [gAll, this, Option.map_some]; rfl) ?_
    have e : (xs.map fun _ => true).all id = true := by simp
    rw [e]
    exact p
/-- [f x for x in xs], nothing changed -/
theorem comp_M {bind : PV → Option Env} {gd : List (Nat × List PV)} {it : E} {st : Store} {P : List PV → Store → Prop} {xs : List PV} (f : PV → PV) (hg : okG gd st = true) (hl : xs.length ≤ 16000000) (h : ∀ x ∈ xs, ∃ e, bind x = some e ∧ wE it e st fun v s' => v = f x ∧ s' = st) (p : P (xs.map f) st) :
    W (compL bind (okG gd) (fun e' s => dTs .nil e' s) (fun e' s => dE it e' s) xs [] st) P := by
  refine comp_F (fun s => s = st) (fun _ => true) f rfl (by simpa using hl) (fun x hx => ?_) fun s hs => ?_
  · obtain ⟨e, he, hw⟩ := h x hx
    refine ⟨e, he, fun s hs => ?_, fun _ s hs => ?_⟩
    · subst hs; exact ⟨hg, wB_nil⟩
    · subst hs; exact hw
  · subst hs
    refine ⟨hg, ?_⟩
    rw [filter_true, List.nil_append]
    exact p
theorem w_lc2 {t : It} {g : Tg} {own : List Nat} {ts : Es} {t1 : It} {g1 : Tg} {own1 : List Nat} {ts1 : Es} {e : E} {env : Env} {st : Store} {P : List PV → Store → Prop} : wL (.lc2 t g own ts t1 g1 own1 ts1 e) env st P = wI t env (setLk true st (lkOf t env st)) fun src s1 =>
    W (compL2 (bindT g (wipe env own)) (okG src.gd) (fun e' s => dTs ts e' s) (fun e' acc s => (dI t1 e' s).bind fun (src1, s2) => compL (bindT g1 (wipe e' own1)) (okG src1.gd) (fun e'' s => dTs ts1 e'' s) (fun e'' s => dE e e'' s) src1.xs acc s2) src.xs [] s1) fun ys s2 => P ys (setLk false s2 (lkOf t env st)) := by
  simp only [wL, wI, dL, W_bind, W_some]
theorem w_lc20 {t : It} {g : Tg} {own : List Nat} {ts : Es} {t1 : It} {g1 : Tg} {own1 : List Nat} {ts1 : Es} {e : E} {env : Env} {st : Store} {P : List PV → Store → Prop} (h : lkOf t env st = none) (k : wI t env st fun src s1 =>
    W (compL2 (bindT g (wipe env own)) (okG src.gd) (fun e' s => dTs ts e' s) (fun e' acc s => (dI t1 e' s).bind fun (src1, s2) => compL (bindT g1 (wipe e' own1)) (okG src1.gd) (fun e'' s => dTs ts1 e'' s) (fun e'' s => dE e e'' s) src1.xs acc s2) src.xs [] s1) P) : wL (.lc2 t g own ts t1 g1 own1 ts1 e) env st P := by
  rw [w_lc2, h]
  exact k
/-- two clauses, nothing changed -/
theorem comp2_M {bind : PV → Option Env} {gd : List (Nat × List PV)} {inner : Env → List PV → Store → Option (List PV × Store)} {st : Store} {P : List PV → Store → Prop} (g : PV → List PV) (hg : okG gd st = true) : ∀ {xs acc : List PV}, acc.length + (xs.flatMap g).length ≤ 16000000 →
    (∀ x ∈ xs, ∃ e, bind x = some e ∧ ∀ acc : List PV, acc.length + (g x).length ≤ 16000000 → W (inner e acc st) fun ys s' => ys = acc ++ g x ∧ s' = st) → P (acc ++ xs.flatMap g) st →
    W (compL2 bind (okG gd) (fun e' s => dTs .nil e' s) inner xs acc st) P
  | [], acc, _, _, p => by
    unfold compL2
    rw [if_pos hg]
    simpa using p
  | x :: xs, acc, hl, h, p => by
    obtain ⟨e, he, hi⟩ := h x List.mem_cons_self
    rw [List.flatMap_cons, List.length_append] at hl
    unfold compL2
    rw [if_pos hg, he, Option.bind_some]
    simp only [dTs, Option.bind_some, if_true]
    obtain ⟨ys, s', hy, rfl, rfl⟩ := W.some (hi acc (by omega))
    rw [hy, Option.bind_some]
    refine comp2_M g hg (by rw [List.length_append]; omega) (fun y hy => h y (List.mem_cons_of_mem _ hy)) ?_
    rw [List.flatMap_cons] at p
    simpa using p
/-- the inner clause of it -/
theorem comp_In {bind : PV → Option Env} {it : E} {st : Store} {xs acc : List PV} (f : PV → PV) (hl : acc.length + xs.length ≤ 16000000) (h : ∀ x ∈ xs, ∃ e, bind x = some e ∧ wE it e st fun v s' => v = f x ∧ s' = st) :
    W (compL bind (okG []) (fun e' s => dTs .nil e' s) (fun e' s => dE it e' s) xs acc st) fun ys s' => ys = acc ++ xs.map f ∧ s' = st := by
  refine comp_F (fun s => s = st) (fun _ => true) f rfl hl (fun x hx => ?_) fun s hs => ?_
  · obtain ⟨e, he, hw⟩ := h x hx
    refine ⟨e, he, fun s hs => ?_, fun _ s hs => ?_⟩
    · subst hs; exact ⟨rfl, wB_nil⟩
    · subst hs; exact hw
  · subst hs
    exact ⟨rfl, by rw [filter_true], rfl⟩
/-! ### attributes -/
theorem ins_at {st : Store} {n : Nat} {C : Str} {fs : List (Str × PV)} (h : st[n]? = some (.ins C fs)) : insAt st n = some (C, fs) := by unfold insAt; rw [h]
theorem W_fld {cs : List Str} {f : Str} {st : Store} {n : Nat} {C : Str} {fs : List (Str × PV)} {v : PV} {P : PV → Store → Prop} (h : st[n]? = some (.ins C fs)) (hc : C ∈ cs) (hf : fs.lookup f = some v) (p : P v st) : W (fFld cs f [.ref n] st) P := W_of (by
  simp only [fFld, ins_at h, Option.bind_some, if_pos hc, hf, Option.map_some]) p
theorem W_setF {cs : List Str} {f : Str} {st : Store} {n : Nat} {C : Str} {fs : List (Str × PV)} {v : PV} {P : PV → Store → Prop} (h : st[n]? = some (.ins C fs)) (hc : C ∈ cs) (hl : fs.length < 1000) (p : ∀ s, s[n]? = some (.ins C (putFP f v fs)) → Fr [n] st s → P .non s) : W (mSetF cs f [v, .ref n] st) P := W_of (by
  simp only [mSetF, ins_at h, Option.bind_some, hc, hl, and_self, if_true]) (p _ (set_eq h) (Fr.set (by simp)))
theorem isIn_at {cs : List Str} {m : Str} {st : Store} {n : Nat} {C : Str} {fs : List (Str × PV)} (h : st[n]? = some (.ins C fs)) (hc : C ∈ cs) (hf : fs.lookup m = none) : isIn cs m (.ref n) st = true := by
  simp only [isIn, ins_at h, decide_eq_true hc, hf]
  rfl
theorem W_mkC {C : Str} {F : Fn} {vs : List PV} {st : Store} {P : PV → Store → Prop} (p : ∀ n s, New st n s (.ins C []) → W (F (.ref n :: vs) s) fun v s' => v = .non ∧ P (.ref n) s') : W (mkC C F vs st) P := by
  unfold mkC
  obtain ⟨v, s, hv, rfl, q⟩ := W.some (p _ _ New.app)
  rw [hv]
  exact q
theorem W_isiL {st : Store} {n : Nat} {xs : List PV} {P : PV → Store → Prop} (h : st[n]? = some (.lst xs)) (p : P (.bl true) st) : W (fIsi [.ref n, .ty "list"] st) P := W_of (by
  simp only [fIsi, tyN, h, Option.bind_some]
  rfl) p
theorem W_eqL {st : Store} {m n : Nat} {a b : List PV} {P : PV → Store → Prop} (hm : st[m]? = some (.lst a)) (hn : st[n]? = some (.lst b)) (ha : a.all (okD 60) = true) (hb : b.all (okD 60) = true) (q : P (.bl (peqs a b)) st) : W (fEq [.ref m, .ref n] st) P := W_of (by
  simp only [fEq, eqB, eqB0, dicAt, lstAt, hm, hn, Option.bind_some, ha, hb, Bool.and_self, if_true, Option.map_some]) q
theorem W_neL {st : Store} {m n : Nat} {a b : List PV} {P : PV → Store → Prop} (hm : st[m]? = some (.lst a)) (hn : st[n]? = some (.lst b)) (ha : a.all (okD 60) = true) (hb : b.all (okD 60) = true) (q : P (.bl (!peqs a b)) st) : W (fNe [.ref m, .ref n] st) P := W_of (by
  simp only [fNe, eqB, eqB0, dicAt, lstAt, hm, hn, Option.bind_some, ha, hb, Bool.and_self, if_true, Option.map_some]) q
theorem W_isiTL {st : Store} {n : Nat} {xs : List PV} {P : PV → Store → Prop} (h : st[n]? = some (.lst xs)) (p : P (.bl false) st) : W (fIsi [.ref n, .ty "tuple"] st) P := W_of (by
  simp only [fIsi, tyN, h, Option.bind_some]
  rfl) p
end Den

/-! VcQ: equal things; membership of data. -/
namespace Den
open PySem L2
mutual
theorem peqR : ∀ (n : Nat) (v : PV), okD n v = true → peq v v = true
  | _, .non, _ => rfl
  | _, .bl b, _ => by simp [peq]
  | _, .int i, _ => by simp [peq]
  | _, .str x, _ => by simp [peq]
  | 0, .tup xs, h => by simp [okD] at h
  | n + 1, .tup xs, h => by
    simp only [okD] at h
    simp only [peq]
    exact peqRs n xs h
  | n, .ref m, h => by cases n <;> simp [okD] at h
  | n, .ty m, h => by cases n <;> simp [okD] at h
  | n, .cls m, h => by cases n <;> simp [okD] at h
  | n, .sls m, h => by cases n <;> simp [okD] at h
theorem peqRs : ∀ (n : Nat) (xs : List PV), xs.all (okD n) = true → peqs xs xs = true
  | _, [], _ => rfl
  | n, x :: xs, h => by
    simp only [List.all_cons, Bool.and_eq_true] at h
    simp only [peqs, peqR n x h.1, peqRs n xs h.2, Bool.and_self]
end
theorem eqB_same {v : PV} {st : Store} (h : okD 60 v = true) : eqB v v st = some true := by
  cases v <;> first | (exfalso; simp [okD] at h; done) | (simp only [eqB, eqB0, h, Bool.and_self, if_true, peqR 60 _ h])
theorem neS {v : PV} {st : Store} {P : PV → Store → Prop} (h : okD 60 v = true) (q : P (.bl false) st) : W (fNe [v, v] st) P := W_of (by simp only [fNe, eqB_same h, Option.map_some]; rfl) q
theorem eqS {v : PV} {st : Store} {P : PV → Store → Prop} (h : okD 60 v = true) (q : P (.bl true) st) : W (fEq [v, v] st) P := W_of (by simp only [fEq, eqB_same h, Option.map_some]) q
theorem neSL {st : Store} {m n : Nat} {a : List PV} {P : PV → Store → Prop} (hm : st[m]? = some (.lst a)) (hn : st[n]? = some (.lst a)) (ha : a.all (okD 60) = true) (q : P (.bl false) st) : W (fNe [.ref m, .ref n] st) P := W_neL hm hn ha ha (by rw [peqRs 60 a ha]; exact q)
/-- what stands in a list of tuples -/
theorem inP_mem {x : PV} {ys : List PV} {n : Nat} (h : x ∈ ys) (hx : okD n x = true) : inP x ys = true := by
  unfold inP
  exact List.any_eq_true.mpr ⟨x, h, peqR n x hx⟩
theorem notIn_mem {st : Store} {n : Nat} {xs : List PV} {ys : List PV} {P : PV → Store → Prop} (hn : st[n]? = some (.lst ys)) (h : .tup xs ∈ ys) (hx : okD 60 (.tup xs) = true) (hy : ys.all (okD 60) = true) (q : P (.bl false) st) : W (fNotIn [.tup xs, .ref n] st) P := W_of (by
  have e : inB (.tup xs) (.ref n) st = some true := by
    have hf : (flatP (.tup xs) && ys.all flatP) = false := rfl
    simp only [inB, hn, hf, Bool.false_eq_true, if_false, hx, hy, Bool.and_self, if_true, inP_mem h hx]
  simp only [fNotIn, e, Option.map_some]; rfl) q
/-- a walk by way of a list that stays -/
theorem for_G {g : Tg} {b : S} {n : Nat} {xs ys : List PV} {env : Env} {st : Store} {P : Flow → Env → Store → Prop} (I : Nat → Env → Store → Prop) (h0 : I 0 env st) (hk : ∀ j e s, I j e s → s[n]? = some (.lst xs))
    (hs : ∀ j x e s, ys[j]? = some x → I j e s → ∃ e1, bindT g e x = some e1 ∧ wS b e1 s (loopK I j P)) (hf : ∀ e s, I ys.length e s → P .nx e s) :
    wF (forL (fun e x => bindT g e x) (okG [(n, xs)]) (fun e s => dS b e s) ys env st) P := for_I I h0 (fun j x e s hx hI => ⟨okG_one (hk j e s hI), hs j x e s hx hI⟩) fun e s hI => ⟨okG_one (hk _ e s hI), hf e s hI⟩
end Den

namespace Pg
open PySem PySem.Spec PyProof.Rows L2 Den
/-! the trees of the defs of checks; printed by shared.py -/

-- is_integer('thing',)  slots ['thing']
def N_is_integer : List Str := ["thing"]
def b_is_integer : S := (.ret (.and (.app fIsi (.cons (.loc 0) (.cons (.con (.ty "int")) .nil))) (.app fNot (.cons (.app fIsi (.cons (.loc 0) (.cons (.con (.ty "bool")) .nil))) .nil))))
def F_is_integer : Fn := runF 1 1 b_is_integer

-- is_within('thing', 'least', 'most')  slots ['thing', 'least', 'most']
def N_is_within : List Str := ["thing", "least", "most"]
def b_is_within : S := (.ret (.and (.app F_is_integer (.cons (.loc 0) .nil)) (.chn fLe fLe (.loc 1) (.loc 0) (.loc 2))))
def F_is_within : Fn := runF 3 3 b_is_within

-- is_number('thing',)  slots ['thing']
def N_is_number : List Str := ["thing"]
def b_is_number : S := (.ret (.and (.app F_is_integer (.cons (.loc 0) .nil)) (.app fGe (.cons (.loc 0) (.cons (.con (.int 0)) .nil)))))
def F_is_number : Fn := runF 1 1 b_is_number

-- is_name('thing',)  slots ['thing', 'sign']
def N_is_name : List Str := ["thing", "sign"]
def b_is_name : S := (.ret (.and (.app fIsi (.cons (.loc 0) (.cons (.con (.ty "str")) .nil))) (.and (.chn fLe fLe (.con (.int 1)) (.app fLen (.cons (.loc 0) .nil)) (.con (.int 8))) (.ofl gAll (.lc (.val (.loc 0)) (.nm 1) [1] .nil (.chn fLe fLe (.con (.str "a")) (.loc 1) (.con (.str "z"))))))))
def F_is_name : Fn := runF 1 2 b_is_name

-- are_names('thing', 'least', 'most')  slots ['thing', 'least', 'most', 'item']
def N_are_names : List Str := ["thing", "least", "most", "item"]
def b_are_names : S := (.seq (.ite (.or (.app fNot (.cons (.app fIsi (.cons (.loc 0) (.cons (.con (.ty "tuple")) .nil))) .nil)) (.app fNot (.cons (.chn fLe fLe (.loc 1) (.app fLen (.cons (.loc 0) .nil)) (.loc 2)) .nil)))
(.ret (.con (.bl false)))
.skip)
.dead)
def F_are_names : Fn := runF 3 4 b_are_names

-- are_numbers('thing', 'many')  slots ['thing', 'many', 'item']
def N_are_numbers : List Str := ["thing", "many", "item"]
def b_are_numbers : S := (.ret (.and (.app fIsi (.cons (.loc 0) (.cons (.con (.ty "tuple")) .nil))) (.and (.app fEq (.cons (.app fLen (.cons (.loc 0) .nil)) (.cons (.loc 1) .nil))) (.ofl gAll (.lc (.val (.loc 0)) (.nm 2) [2] .nil (.app F_is_number (.cons (.loc 2) .nil)))))))
def F_are_numbers : Fn := runF 2 3 b_are_numbers

-- check_input('thing', 'many')  slots ['thing', 'many']
def N_check_input : List Str := ["thing", "many"]
def b_check_input : S := (.ite (.app fNot (.cons (.app F_are_numbers (.cons (.loc 0) (.cons (.loc 1) .nil))) .nil))
.dead
.skip)
def F_check_input : Fn := runF 2 2 b_check_input

-- check_any_number('thing',)  slots ['thing']
def N_check_any_number : List Str := ["thing"]
def b_check_any_number : S := (.ite (.app fNot (.cons (.app F_is_number (.cons (.loc 0) .nil)) .nil))
.dead
.skip)
def F_check_any_number : Fn := runF 1 1 b_check_any_number

-- check_name_in('thing', 'names')  slots ['thing', 'names']
def N_check_name_in : List Str := ["thing", "names"]
def b_check_name_in : S := (.ite (.or (.app fNot (.cons (.app F_is_name (.cons (.loc 0) .nil)) .nil)) (.app fNotIn (.cons (.loc 0) (.cons (.loc 1) .nil))))
.dead
.skip)
def F_check_name_in : Fn := runF 2 2 b_check_name_in

-- common_divisor('one', 'other')  slots ['one', 'other']
def N_common_divisor : List Str := ["one", "other"]
def b_common_divisor : S := (.seq (.set 0 (.app fAbs (.cons (.loc 0) .nil)))
(.seq (.set 1 (.app fAbs (.cons (.loc 1) .nil)))
(.seq (.whl (.app fGt (.cons (.loc 1) (.cons (.con (.int 0)) .nil)))
(.asgT [(.nm 0), (.nm 1)] (.app fTup (.cons (.loc 1) (.cons (.app fMod (.cons (.loc 0) (.cons (.loc 1) .nil))) .nil)))))
(.ret (.loc 0)))))
def F_common_divisor : Fn := runF 2 2 b_common_divisor

-- common_multiple('one', 'other')  slots ['one', 'other']
def N_common_multiple : List Str := ["one", "other"]
def b_common_multiple : S := (.ret (.app fMul (.cons (.app fDiv (.cons (.loc 0) (.cons (.app F_common_divisor (.cons (.loc 0) (.cons (.loc 1) .nil))) .nil))) (.cons (.loc 1) .nil))))
def F_common_multiple : Fn := runF 2 2 b_common_multiple

-- divided_up('number', 'divisor')  slots ['number', 'divisor']
def N_divided_up : List Str := ["number", "divisor"]
def b_divided_up : S := (.ret (.app fNeg (.cons (.app fDiv (.cons (.app fNeg (.cons (.loc 0) .nil)) (.cons (.loc 1) .nil))) .nil)))
def F_divided_up : Fn := runF 2 2 b_divided_up

-- check_number('thing', 'least', 'most')  slots ['thing', 'least', 'most']
def N_check_number : List Str := ["thing", "least", "most"]
def b_check_number : S := (.ite (.app fNot (.cons (.app F_is_within (.cons (.loc 0) (.cons (.loc 1) (.cons (.loc 2) .nil)))) .nil))
.dead
.skip)
def F_check_number : Fn := runF 3 3 b_check_number

-- check_index('thing', 'many')  slots ['thing', 'many']
def N_check_index : List Str := ["thing", "many"]
def b_check_index : S := (.ite (.app fNot (.cons (.app F_is_within (.cons (.loc 0) (.cons (.con (.int 0)) (.cons (.app fSub (.cons (.loc 1) (.cons (.con (.int 1)) .nil))) .nil)))) .nil))
.dead
.skip)
def F_check_index : Fn := runF 2 2 b_check_index
end Pg

namespace Pg
open PySem PySem.Spec PyProof.Rows L2 Den
/-! the trees of the defs of programs; printed by shared.py -/

-- is_deed('thing',)  slots ['thing', 'item']
def N_is_deed : List Str := ["thing", "item"]
def b_is_deed : S := (.seq (.ite (.or (.app fNot (.cons (.app fIsi (.cons (.loc 0) (.cons (.con (.ty "tuple")) .nil))) .nil)) (.or (.app fLt (.cons (.app fLen (.cons (.loc 0) .nil)) (.cons (.con (.int 2)) .nil))) (.app fNot (.cons (.app fIsi (.cons (.app fIx (.cons (.loc 0) (.cons (.con (.int 0)) .nil))) (.cons (.con (.ty "str")) .nil))) .nil))))
(.ret (.con (.bl false)))
.skip)
(.seq (.ite (.app fNot (.cons (.ofl gAll (.lc (.val (.app fSlL (.cons (.loc 0) (.cons (.con (.int 1)) .nil)))) (.nm 1) [1] .nil (.app F_is_name (.cons (.loc 1) .nil)))) .nil))
(.ret (.con (.bl false)))
.skip)
(.seq (.ite (.app fEq (.cons (.app fIx (.cons (.loc 0) (.cons (.con (.int 0)) .nil))) (.cons (.con (.str "copy")) .nil)))
(.ret (.app fEq (.cons (.app fLen (.cons (.loc 0) .nil)) (.cons (.con (.int 3)) .nil))))
.skip)
(.ret (.and (.app fIn (.cons (.app fIx (.cons (.loc 0) (.cons (.con (.int 0)) .nil))) (.cons (.app fTup (.cons (.con (.str "zero")) (.cons (.con (.str "more")) .nil))) .nil))) (.app fEq (.cons (.app fLen (.cons (.loc 0) .nil)) (.cons (.con (.int 2)) .nil))))))))
def F_is_deed : Fn := runF 1 2 b_is_deed
end Pg

namespace Pg
open PySem PySem.Spec PyProof.Rows L2 Den
/-! the trees of the defs of pushes; printed by shared.py -/

-- raw_push('own', 'deeds')  slots ['own', 'deeds', 'found', 'deed', 'source', 'more', 'name']
def N_raw_push : List Str := ["own", "deeds", "found", "deed", "source", "more", "name"]
def b_raw_push : S := (.seq (.set 2 (.dc (.val (.loc 0)) (.nm 6) [6] .nil (.loc 6) (.app fTup (.cons (.loc 6) (.cons (.con (.int 0)) .nil)))))
(.seq (.for (.val (.loc 1)) (.nm 3)
(.ite (.app fEq (.cons (.app fIx (.cons (.loc 3) (.cons (.con (.int 0)) .nil))) (.cons (.con (.str "zero")) .nil)))
(.asg (.sub (.loc 2) (.app fIx (.cons (.loc 3) (.cons (.con (.int 1)) .nil)))) (.app fTup (.cons (.con .non) (.cons (.con (.int 0)) .nil))))
(.ite (.app fEq (.cons (.app fIx (.cons (.loc 3) (.cons (.con (.int 0)) .nil))) (.cons (.con (.str "copy")) .nil)))
(.asg (.sub (.loc 2) (.app fIx (.cons (.loc 3) (.cons (.con (.int 1)) .nil)))) (.app fIx (.cons (.loc 2) (.cons (.app fIx (.cons (.loc 3) (.cons (.con (.int 2)) .nil))) .nil))))
(.seq (.asgT [(.nm 4), (.nm 5)] (.app fIx (.cons (.loc 2) (.cons (.app fIx (.cons (.loc 3) (.cons (.con (.int 1)) .nil))) .nil))))
(.asg (.sub (.loc 2) (.app fIx (.cons (.loc 3) (.cons (.con (.int 1)) .nil)))) (.app fTup (.cons (.loc 4) (.cons (.app fAdd (.cons (.loc 5) (.cons (.con (.int 1)) .nil))) .nil))))))))
(.ret (.loc 2))))
def F_raw_push : Fn := runF 2 7 b_raw_push

-- source_number('numbers', 'pair')  slots ['numbers', 'pair']
def N_source_number : List Str := ["numbers", "pair"]
def b_source_number : S := (.ret (.ite (.app fIsN (.cons (.app fIx (.cons (.loc 1) (.cons (.con (.int 0)) .nil))) (.cons (.con .non) .nil))) (.app fIx (.cons (.loc 1) (.cons (.con (.int 1)) .nil))) (.app fAdd (.cons (.app fIx (.cons (.loc 0) (.cons (.app fIx (.cons (.loc 1) (.cons (.con (.int 0)) .nil))) .nil))) (.cons (.app fIx (.cons (.loc 1) (.cons (.con (.int 1)) .nil))) .nil)))))
def F_source_number : Fn := runF 2 2 b_source_number

-- raw_pushed('push', 'numbers')  slots ['push', 'numbers', 'name']
def N_raw_pushed : List Str := ["push", "numbers", "name"]
def b_raw_pushed : S := (.ret (.dc (.val (.loc 0)) (.nm 2) [2] .nil (.loc 2) (.app F_source_number (.cons (.loc 1) (.cons (.app fIx (.cons (.loc 0) (.cons (.loc 2) .nil))) .nil)))))
def F_raw_pushed : Fn := runF 2 3 b_raw_pushed

-- raw_after('push', 'other')  slots ['push', 'other', 'found', 'name', 'source', 'more']
def N_raw_after : List Str := ["push", "other", "found", "name", "source", "more"]
def b_raw_after : S := (.seq (.set 2 (.app fDic0 .nil))
(.seq (.for (.val (.loc 1)) (.nm 3)
(.seq (.asgT [(.nm 4), (.nm 5)] (.app fIx (.cons (.loc 1) (.cons (.loc 3) .nil))))
(.ite (.app fIsN (.cons (.loc 4) (.cons (.con .non) .nil)))
(.asg (.sub (.loc 2) (.loc 3)) (.app fTup (.cons (.con .non) (.cons (.loc 5) .nil))))
(.asg (.sub (.loc 2) (.loc 3)) (.app fTup (.cons (.app fIx (.cons (.app fIx (.cons (.loc 0) (.cons (.loc 4) .nil))) (.cons (.con (.int 0)) .nil))) (.cons (.app fAdd (.cons (.app fIx (.cons (.app fIx (.cons (.loc 0) (.cons (.loc 4) .nil))) (.cons (.con (.int 1)) .nil))) (.cons (.loc 5) .nil))) .nil)))))))
(.ret (.loc 2))))
def F_raw_after : Fn := runF 2 6 b_raw_after

-- raw_times('push', 'many')  slots ['push', 'many', 'found', 'power', 'left', 'name']
def N_raw_times : List Str := ["push", "many", "found", "power", "left", "name"]
def b_raw_times : S := (.seq (.set 2 (.dc (.val (.loc 0)) (.nm 5) [5] .nil (.loc 5) (.app fTup (.cons (.loc 5) (.cons (.con (.int 0)) .nil)))))
(.seq (.set 3 (.loc 0))
(.seq (.set 4 (.loc 1))
(.seq (.whl (.app fGt (.cons (.loc 4) (.cons (.con (.int 0)) .nil)))
(.seq (.ite (.app fEq (.cons (.app fMod (.cons (.loc 4) (.cons (.con (.int 2)) .nil))) (.cons (.con (.int 1)) .nil)))
(.set 2 (.app F_raw_after (.cons (.loc 2) (.cons (.loc 3) .nil))))
.skip)
(.seq (.set 3 (.app F_raw_after (.cons (.loc 3) (.cons (.loc 3) .nil))))
(.set 4 (.app fDiv (.cons (.loc 4) (.cons (.con (.int 2)) .nil)))))))
(.ret (.loc 2))))))
def F_raw_times : Fn := runF 2 6 b_raw_times

-- raw_way('push', 'name')  slots ['push', 'name', 'met', 'here', 'row']
def N_raw_way : List Str := ["push", "name", "met", "here", "row"]
def b_raw_way : S := (.seq (.set 2 (.app fDic0 .nil))
(.seq (.set 3 (.loc 1))
(.seq (.whl (.and (.app fNotN (.cons (.loc 3) (.cons (.con .non) .nil))) (.app fNotIn (.cons (.loc 3) (.cons (.loc 2) .nil))))
(.seq (.asg (.sub (.loc 2) (.loc 3)) (.app fLen (.cons (.loc 2) .nil)))
(.set 3 (.app fIx (.cons (.app fIx (.cons (.loc 0) (.cons (.loc 3) .nil))) (.cons (.con (.int 0)) .nil))))))
(.seq (.set 4 (.app fTupD (.cons (.loc 2) .nil)))
(.seq (.ite (.app fIsN (.cons (.loc 3) (.cons (.con .non) .nil)))
(.ret (.app fTup (.cons (.loc 4) (.cons (.app fTup .nil) .nil))))
.skip)
(.ret (.app fTup (.cons (.app fSlH (.cons (.loc 4) (.cons (.app fIx (.cons (.loc 2) (.cons (.loc 3) .nil))) .nil))) (.cons (.app fSlL (.cons (.loc 4) (.cons (.app fIx (.cons (.loc 2) (.cons (.loc 3) .nil))) .nil))) .nil)))))))))
def F_raw_way : Fn := runF 2 5 b_raw_way

-- raw_tail('push',)  slots ['push', 'name']
def N_raw_tail : List Str := ["push", "name"]
def b_raw_tail : S := (.ret (.ofl gMax (.lc (.val (.loc 0)) (.nm 1) [1] .nil (.app fLen (.cons (.app fIx (.cons (.app F_raw_way (.cons (.loc 0) (.cons (.loc 1) .nil))) (.cons (.con (.int 0)) .nil))) .nil)))))
def F_raw_tail : Fn := runF 1 2 b_raw_tail

-- raw_turn('push',)  slots ['push', 'found', 'name', 'ring']
def N_raw_turn : List Str := ["push", "found", "name", "ring"]
def b_raw_turn : S := (.seq (.set 1 (.con (.int 1)))
(.seq (.for (.val (.loc 0)) (.nm 2)
(.seq (.set 3 (.app fIx (.cons (.app F_raw_way (.cons (.loc 0) (.cons (.loc 2) .nil))) (.cons (.con (.int 1)) .nil))))
(.ite (.app fGt (.cons (.app fLen (.cons (.loc 3) .nil)) (.cons (.con (.int 0)) .nil)))
(.set 1 (.app F_common_multiple (.cons (.loc 1) (.cons (.app fLen (.cons (.loc 3) .nil)) .nil))))
.skip)))
(.ret (.loc 1))))
def F_raw_turn : Fn := runF 1 4 b_raw_turn

-- is_push('thing',)  slots ['thing', 'name', 'pair']
def N_is_push : List Str := ["thing", "name", "pair"]
def b_is_push : S := (.seq (.ite (.or (.app fNot (.cons (.app fIsi (.cons (.loc 0) (.cons (.con (.ty "dict")) .nil))) .nil)) (.or (.app fEq (.cons (.app fLen (.cons (.loc 0) .nil)) (.cons (.con (.int 0)) .nil))) (.app fNot (.cons (.ofl gAll (.lc (.val (.loc 0)) (.nm 1) [1] .nil (.app F_is_name (.cons (.loc 1) .nil)))) .nil))))
(.ret (.con (.bl false)))
.skip)
(.seq (.for (.val (.loc 0)) (.nm 1)
(.seq (.set 2 (.app fIx (.cons (.loc 0) (.cons (.loc 1) .nil))))
(.seq (.ite (.or (.app fNot (.cons (.app fIsi (.cons (.loc 2) (.cons (.con (.ty "tuple")) .nil))) .nil)) (.or (.app fNe (.cons (.app fLen (.cons (.loc 2) .nil)) (.cons (.con (.int 2)) .nil))) (.app fNot (.cons (.app F_is_number (.cons (.app fIx (.cons (.loc 2) (.cons (.con (.int 1)) .nil))) .nil)) .nil))))
(.ret (.con (.bl false)))
.skip)
(.ite (.and (.app fNotN (.cons (.app fIx (.cons (.loc 2) (.cons (.con (.int 0)) .nil))) (.cons (.con .non) .nil))) (.or (.app fNot (.cons (.app F_is_name (.cons (.app fIx (.cons (.loc 2) (.cons (.con (.int 0)) .nil))) .nil)) .nil)) (.app fNotIn (.cons (.app fIx (.cons (.loc 2) (.cons (.con (.int 0)) .nil))) (.cons (.loc 0) .nil)))))
(.ret (.con (.bl false)))
.skip))))
(.ret (.con (.bl true)))))
def F_is_push : Fn := runF 1 3 b_is_push

-- check_push('thing',)  slots ['thing']
def N_check_push : List Str := ["thing"]
def b_check_push : S := (.ite (.app fNot (.cons (.app F_is_push (.cons (.loc 0) .nil)) .nil))
.dead
.skip)
def F_check_push : Fn := runF 1 1 b_check_push

-- push_of('own', 'deeds')  slots ['own', 'deeds', 'deed', 'name']
def N_push_of : List Str := ["own", "deeds", "deed", "name"]
def b_push_of : S := (.seq (.ite (.or (.app fNot (.cons (.app fIsi (.cons (.loc 0) (.cons (.con (.ty "tuple")) .nil))) .nil)) (.app fNot (.cons (.app F_are_names (.cons (.loc 0) (.cons (.con (.int 1)) (.cons (.app fLen (.cons (.loc 0) .nil)) .nil)))) .nil)))
.dead
.skip)
(.seq (.ite (.or (.app fNot (.cons (.app fIsi (.cons (.loc 1) (.cons (.con (.ty "tuple")) .nil))) .nil)) (.app fNot (.cons (.ofl gAll (.lc (.val (.loc 1)) (.nm 2) [2] .nil (.app F_is_deed (.cons (.loc 2) .nil)))) .nil)))
.dead
.skip)
(.seq (.ite (.app fNot (.cons (.ofl gAll (.lc2 (.val (.loc 1)) (.nm 2) [2, 3] .nil (.val (.app fSlL (.cons (.loc 2) (.cons (.con (.int 1)) .nil)))) (.nm 3) [3] .nil (.app fIn (.cons (.loc 3) (.cons (.loc 0) .nil))))) .nil))
.dead
.skip)
(.ret (.app F_raw_push (.cons (.loc 0) (.cons (.loc 1) .nil)))))))
def F_push_of : Fn := runF 2 4 b_push_of

-- pushed('push', 'numbers')  slots ['push', 'numbers', 'name']
def N_pushed : List Str := ["push", "numbers", "name"]
def b_pushed : S := (.seq (.ex (.app F_check_push (.cons (.loc 0) .nil)))
(.seq (.ite (.or (.app fNot (.cons (.app fIsi (.cons (.loc 1) (.cons (.con (.ty "dict")) .nil))) .nil)) (.or (.app fNe (.cons (.app fLen (.cons (.loc 1) .nil)) (.cons (.app fLen (.cons (.loc 0) .nil)) .nil))) (.app fNot (.cons (.ofl gAll (.lc (.val (.loc 0)) (.nm 2) [2] .nil (.app fIn (.cons (.loc 2) (.cons (.loc 1) .nil))))) .nil))))
.dead
.skip)
(.seq (.ite (.app fNot (.cons (.ofl gAll (.lc (.val (.loc 0)) (.nm 2) [2] .nil (.app F_is_number (.cons (.app fIx (.cons (.loc 1) (.cons (.loc 2) .nil))) .nil)))) .nil))
.dead
.skip)
(.ret (.app F_raw_pushed (.cons (.loc 0) (.cons (.loc 1) .nil)))))))
def F_pushed : Fn := runF 2 3 b_pushed

-- one_more('push', 'other')  slots ['push', 'other']
def N_one_more : List Str := ["push", "other"]
def b_one_more : S := (.seq (.ex (.app F_check_push (.cons (.loc 0) .nil)))
(.seq (.ex (.app F_check_push (.cons (.loc 1) .nil)))
(.seq (.ite (.app fNe (.cons (.ofl gLst (.app flSort (.cons (.loc 0) .nil))) (.cons (.ofl gLst (.app flSort (.cons (.loc 1) .nil))) .nil)))
.dead
.skip)
(.ret (.app F_raw_after (.cons (.loc 0) (.cons (.loc 1) .nil)))))))
def F_one_more : Fn := runF 2 2 b_one_more

-- many_times('push', 'many')  slots ['push', 'many']
def N_many_times : List Str := ["push", "many"]
def b_many_times : S := (.seq (.ex (.app F_check_push (.cons (.loc 0) .nil)))
(.seq (.ex (.app F_check_any_number (.cons (.loc 1) .nil)))
(.ret (.app F_raw_times (.cons (.loc 0) (.cons (.loc 1) .nil))))))
def F_many_times : Fn := runF 2 2 b_many_times

-- way('push', 'name')  slots ['push', 'name']
def N_way : List Str := ["push", "name"]
def b_way : S := (.seq (.ex (.app F_check_push (.cons (.loc 0) .nil)))
(.seq (.ex (.app F_check_name_in (.cons (.loc 1) (.cons (.loc 0) .nil))))
(.ret (.app F_raw_way (.cons (.loc 0) (.cons (.loc 1) .nil))))))
def F_way : Fn := runF 2 2 b_way

-- raw_gain('push', 'name')  slots ['push', 'name', 'one']
def N_raw_gain : List Str := ["push", "name", "one"]
def b_raw_gain : S := (.ret (.ofl gSum (.lc (.val (.app fIx (.cons (.app F_raw_way (.cons (.loc 0) (.cons (.loc 1) .nil))) (.cons (.con (.int 1)) .nil)))) (.nm 2) [2] .nil (.app fIx (.cons (.app fIx (.cons (.loc 0) (.cons (.loc 2) .nil))) (.cons (.con (.int 1)) .nil))))))
def F_raw_gain : Fn := runF 2 3 b_raw_gain

-- gain('push', 'name')  slots ['push', 'name']
def N_gain : List Str := ["push", "name"]
def b_gain : S := (.seq (.ex (.app F_check_push (.cons (.loc 0) .nil)))
(.seq (.ex (.app F_check_name_in (.cons (.loc 1) (.cons (.loc 0) .nil))))
(.ret (.app F_raw_gain (.cons (.loc 0) (.cons (.loc 1) .nil))))))
def F_gain : Fn := runF 2 2 b_gain

-- tail('push',)  slots ['push']
def N_tail : List Str := ["push"]
def b_tail : S := (.seq (.ex (.app F_check_push (.cons (.loc 0) .nil)))
(.ret (.app F_raw_tail (.cons (.loc 0) .nil))))
def F_tail : Fn := runF 1 1 b_tail

-- turn('push',)  slots ['push']
def N_turn : List Str := ["push"]
def b_turn : S := (.seq (.ex (.app F_check_push (.cons (.loc 0) .nil)))
(.ret (.app F_raw_turn (.cons (.loc 0) .nil))))
def F_turn : Fn := runF 1 1 b_turn

-- copies_of('push', 'spare')  slots ['push', 'spare', 'left', 'found', 'asked', 'free', 'name', 'source', 'other']
def N_copies_of : List Str := ["push", "spare", "left", "found", "asked", "free", "name", "source", "other"]
def b_copies_of : S := (.seq (.set 2 (.dc (.val (.loc 0)) (.nm 6) [6] (.cons (.app fNe (.cons (.app fIx (.cons (.app fIx (.cons (.loc 0) (.cons (.loc 6) .nil))) (.cons (.con (.int 0)) .nil))) (.cons (.loc 6) .nil))) .nil) (.loc 6) (.app fIx (.cons (.app fIx (.cons (.loc 0) (.cons (.loc 6) .nil))) (.cons (.con (.int 0)) .nil)))))
(.seq (.set 3 (.ofl gLst (.dsp .nil)))
(.seq (.whl (.app fGt (.cons (.app fLen (.cons (.loc 2) .nil)) (.cons (.con (.int 0)) .nil)))
(.seq (.set 4 (.dc (.val (.loc 2)) (.nm 6) [6] .nil (.app fIx (.cons (.loc 2) (.cons (.loc 6) .nil))) (.con (.bl true))))
(.seq (.set 5 (.ofl gLst (.lc (.ofl (.app flSort (.cons (.loc 2) .nil))) (.nm 6) [6] (.cons (.app fNotIn (.cons (.loc 6) (.cons (.loc 4) .nil))) .nil) (.loc 6))))
(.ite (.app fGt (.cons (.app fLen (.cons (.loc 5) .nil)) (.cons (.con (.int 0)) .nil)))
(.seq (.set 6 (.app fIx (.cons (.loc 5) (.cons (.con (.int 0)) .nil))))
(.seq (.set 7 (.mth isLst mPop (.loc 2) (.cons (.loc 6) .nil)))
(.ex (.mth isLst mAppend (.loc 3) (.cons (.ite (.app fIsN (.cons (.loc 7) (.cons (.con .non) .nil))) (.app fTup (.cons (.con (.str "zero")) (.cons (.loc 6) .nil))) (.app fTup (.cons (.con (.str "copy")) (.cons (.loc 6) (.cons (.loc 7) .nil))))) .nil)))))
(.seq (.set 6 (.app fMin (.cons (.loc 2) .nil)))
(.seq (.ex (.mth isLst mAppend (.loc 3) (.cons (.app fTup (.cons (.con (.str "copy")) (.cons (.loc 1) (.cons (.loc 6) .nil)))) .nil)))
(.for (.ofl (.app flList (.cons (.loc 2) .nil))) (.nm 8)
(.ite (.app fEq (.cons (.app fIx (.cons (.loc 2) (.cons (.loc 8) .nil))) (.cons (.loc 6) .nil)))
(.asg (.sub (.loc 2) (.loc 8)) (.loc 1))
.skip))))))))
(.ret (.loc 3)))))
def F_copies_of : Fn := runF 2 9 b_copies_of

-- deeds_of('push', 'spare')  slots ['push', 'spare', 'found', 'name']
def N_deeds_of : List Str := ["push", "spare", "found", "name"]
def b_deeds_of : S := (.seq (.ex (.app F_check_push (.cons (.loc 0) .nil)))
(.seq (.ite (.or (.app fNot (.cons (.app F_is_name (.cons (.loc 1) .nil)) .nil)) (.app fIn (.cons (.loc 1) (.cons (.loc 0) .nil))))
.dead
.skip)
(.seq (.set 2 (.app F_copies_of (.cons (.loc 0) (.cons (.loc 1) .nil))))
(.seq (.for (.ofl (.app flSort (.cons (.loc 0) .nil))) (.nm 3)
(.ex (.mth isLst mExtend (.loc 2) (.cons (.app fMul (.cons (.ofl gLst (.dsp (.cons (.app fTup (.cons (.con (.str "more")) (.cons (.loc 3) .nil))) .nil))) (.cons (.app fIx (.cons (.app fIx (.cons (.loc 0) (.cons (.loc 3) .nil))) (.cons (.con (.int 1)) .nil))) .nil))) .nil))))
(.ret (.app fTupD (.cons (.loc 2) .nil)))))))
def F_deeds_of : Fn := runF 2 4 b_deeds_of

-- Repeated_grown('self', 'name')  slots ['self', 'name', 'ring']
def N_Repeated_grown : List Str := ["self", "name", "ring"]
def b_Repeated_grown : S := (.seq (.set 2 (.app fIx (.cons (.app F_raw_way (.cons (.app (fFld ["Inside", "Repeated"] "push") (.cons (.loc 0) .nil)) (.cons (.loc 1) .nil))) (.cons (.con (.int 1)) .nil))))
(.ret (.ite (.app fGt (.cons (.app fLen (.cons (.loc 2) .nil)) (.cons (.con (.int 0)) .nil))) (.app fDiv (.cons (.app fMul (.cons (.app F_raw_gain (.cons (.app (fFld ["Inside", "Repeated"] "push") (.cons (.loc 0) .nil)) (.cons (.loc 1) .nil))) (.cons (.app (fFld ["Inside", "Repeated"] "turn") (.cons (.loc 0) .nil)) .nil))) (.cons (.app fLen (.cons (.loc 2) .nil)) .nil))) (.con (.int 0)))))
def F_Repeated_grown : Fn := runF 2 3 b_Repeated_grown

-- Repeated___init__('self', 'push')  slots ['self', 'push', 'name']
def N_Repeated___init__ : List Str := ["self", "push", "name"]
def b_Repeated___init__ : S := (.seq (.ex (.app (mSetF ["Inside", "Repeated"] "push") (.cons (.loc 1) (.cons (.loc 0) .nil))))
(.seq (.ex (.app (mSetF ["Inside", "Repeated"] "tail") (.cons (.app F_raw_tail (.cons (.loc 1) .nil)) (.cons (.loc 0) .nil))))
(.seq (.ex (.app (mSetF ["Inside", "Repeated"] "turn") (.cons (.app F_raw_turn (.cons (.loc 1) .nil)) (.cons (.loc 0) .nil))))
(.seq (.ex (.app (mSetF ["Repeated"] "powers") (.cons (.ofl gLst (.dsp (.cons (.dc (.val (.loc 1)) (.nm 2) [2] .nil (.loc 2) (.app fTup (.cons (.loc 2) (.cons (.con (.int 0)) .nil)))) .nil))) (.cons (.loc 0) .nil))))
(.ex (.app (mSetF ["Repeated"] "growth") (.cons (.dc (.val (.loc 1)) (.nm 2) [2] .nil (.loc 2) (.mth (isIn ["Repeated"] "grown") F_Repeated_grown (.loc 0) (.cons (.loc 2) .nil))) (.cons (.loc 0) .nil))))))))
def F_Repeated___init__ : Fn := runF 2 3 b_Repeated___init__

-- Repeated_power('self', 'many')  slots ['self', 'many']
def N_Repeated_power : List Str := ["self", "many"]
def b_Repeated_power : S := (.seq (.whl (.app fLe (.cons (.app fLen (.cons (.app (fFld ["Repeated"] "powers") (.cons (.loc 0) .nil)) .nil)) (.cons (.loc 1) .nil)))
(.ex (.mth isLst mAppend (.app (fFld ["Repeated"] "powers") (.cons (.loc 0) .nil)) (.cons (.app F_raw_after (.cons (.app fIx (.cons (.app (fFld ["Repeated"] "powers") (.cons (.loc 0) .nil)) (.cons (.app fNeg (.cons (.con (.int 1)) .nil)) .nil))) (.cons (.app (fFld ["Inside", "Repeated"] "push") (.cons (.loc 0) .nil)) .nil))) .nil))))
(.ret (.app fIx (.cons (.app (fFld ["Repeated"] "powers") (.cons (.loc 0) .nil)) (.cons (.loc 1) .nil)))))
def F_Repeated_power : Fn := runF 2 2 b_Repeated_power

-- Repeated_behind('self', 'numbers', 'many')  slots ['self', 'numbers', 'many', 'first', 'turns', 'found', 'name']
def N_Repeated_behind : List Str := ["self", "numbers", "many", "first", "turns", "found", "name"]
def b_Repeated_behind : S := (.seq (.set 3 (.loc 2))
(.seq (.ite (.app fGe (.cons (.loc 2) (.cons (.app fAdd (.cons (.app (fFld ["Inside", "Repeated"] "tail") (.cons (.loc 0) .nil)) (.cons (.app (fFld ["Inside", "Repeated"] "turn") (.cons (.loc 0) .nil)) .nil))) .nil)))
(.set 3 (.app fAdd (.cons (.app (fFld ["Inside", "Repeated"] "tail") (.cons (.loc 0) .nil)) (.cons (.app fMod (.cons (.app fSub (.cons (.loc 2) (.cons (.app (fFld ["Inside", "Repeated"] "tail") (.cons (.loc 0) .nil)) .nil))) (.cons (.app (fFld ["Inside", "Repeated"] "turn") (.cons (.loc 0) .nil)) .nil))) .nil))))
.skip)
(.seq (.set 4 (.app fDiv (.cons (.app fSub (.cons (.loc 2) (.cons (.loc 3) .nil))) (.cons (.app (fFld ["Inside", "Repeated"] "turn") (.cons (.loc 0) .nil)) .nil))))
(.seq (.set 5 (.app F_raw_pushed (.cons (.mth (isIn ["Repeated"] "power") F_Repeated_power (.loc 0) (.cons (.loc 3) .nil)) (.cons (.loc 1) .nil))))
(.ret (.dc (.val (.loc 5)) (.nm 6) [6] .nil (.loc 6) (.app fAdd (.cons (.app fIx (.cons (.loc 5) (.cons (.loc 6) .nil))) (.cons (.app fMul (.cons (.loc 4) (.cons (.app fIx (.cons (.app (fFld ["Repeated"] "growth") (.cons (.loc 0) .nil)) (.cons (.loc 6) .nil))) .nil))) .nil)))))))))
def F_Repeated_behind : Fn := runF 3 7 b_Repeated_behind
end Pg

namespace Pg
open PySem PySem.Spec PyProof.Rows L2 Den
/-! the trees of the defs of tables; printed by shared.py -/

-- are_bounds('thing',)  slots ['thing']
def N_are_bounds : List Str := ["thing"]
def b_are_bounds : S := (.ret (.and (.app fIsi (.cons (.loc 0) (.cons (.con (.ty "tuple")) .nil))) (.and (.app fLe (.cons (.app fLen (.cons (.loc 0) .nil)) (.cons (.con (.int 2)) .nil))) (.app F_are_numbers (.cons (.loc 0) (.cons (.app fLen (.cons (.loc 0) .nil)) .nil))))))
def F_are_bounds : Fn := runF 1 1 b_are_bounds

-- are_measures('thing', 'many')  slots ['thing', 'many', 'item']
def N_are_measures : List Str := ["thing", "many", "item"]
def b_are_measures : S := (.ret (.and (.app F_are_numbers (.cons (.loc 0) (.cons (.loc 1) .nil))) (.ofl gAll (.lc (.val (.loc 0)) (.nm 2) [2] .nil (.app fGt (.cons (.loc 2) (.cons (.con (.int 0)) .nil)))))))
def F_are_measures : Fn := runF 2 3 b_are_measures

-- many_cells('bounds', 'measures')  slots ['bounds', 'measures', 'found', 'bound', 'measure']
def N_many_cells : List Str := ["bounds", "measures", "found", "bound", "measure"]
def b_many_cells : S := (.seq (.set 2 (.con (.int 1)))
(.seq (.for (.zip (.loc 0) (.loc 1)) (.tp [3, 4])
(.set 2 (.app fMul (.cons (.loc 2) (.cons (.app fAdd (.cons (.loc 3) (.cons (.loc 4) .nil))) .nil)))))
(.ret (.loc 2))))
def F_many_cells : Fn := runF 2 5 b_many_cells

-- cells_of('bounds', 'measures')  slots ['bounds', 'measures', 'found', 'bound', 'measure', 'cell', 'number']
def N_cells_of : List Str := ["bounds", "measures", "found", "bound", "measure", "cell", "number"]
def b_cells_of : S := (.seq (.set 2 (.ofl gLst (.dsp (.cons (.app fTup .nil) .nil))))
(.seq (.for (.zip (.loc 0) (.loc 1)) (.tp [3, 4])
(.set 2 (.ofl gLst (.lc2 (.val (.loc 2)) (.nm 5) [5, 6] .nil (.rng (.cons (.app fAdd (.cons (.loc 3) (.cons (.loc 4) .nil))) .nil)) (.nm 6) [6] .nil (.app fAdd (.cons (.loc 5) (.cons (.app fTup (.cons (.loc 6) .nil)) .nil)))))))
(.ret (.loc 2))))
def F_cells_of : Fn := runF 2 7 b_cells_of

-- is_great('bounds', 'cell', 'k')  slots ['bounds', 'cell', 'k']
def N_is_great : List Str := ["bounds", "cell", "k"]
def b_is_great : S := (.ret (.app fGe (.cons (.app fIx (.cons (.loc 1) (.cons (.loc 2) .nil))) (.cons (.app fIx (.cons (.loc 0) (.cons (.loc 2) .nil))) .nil))))
def F_is_great : Fn := runF 3 3 b_is_great

-- is_form('thing', 'bounds', 'cell')  slots ['thing', 'bounds', 'cell', 'k']
def N_is_form : List Str := ["thing", "bounds", "cell", "k"]
def b_is_form : S := (.seq (.ite (.or (.app fNot (.cons (.app fIsi (.cons (.loc 0) (.cons (.con (.ty "tuple")) .nil))) .nil)) (.or (.app fNe (.cons (.app fLen (.cons (.loc 0) .nil)) (.cons (.con (.int 2)) .nil))) (.app fNot (.cons (.app F_is_number (.cons (.app fIx (.cons (.loc 0) (.cons (.con (.int 0)) .nil))) .nil)) .nil))))
(.ret (.con (.bl false)))
.skip)
(.seq (.ite (.app fNot (.cons (.app F_are_numbers (.cons (.app fIx (.cons (.loc 0) (.cons (.con (.int 1)) .nil))) (.cons (.app fLen (.cons (.loc 2) .nil)) .nil))) .nil))
(.ret (.con (.bl false)))
.skip)
(.ret (.ofl gAll (.lc (.rng (.cons (.app fLen (.cons (.loc 2) .nil)) .nil)) (.nm 3) [3] .nil (.or (.app fEq (.cons (.app fIx (.cons (.app fIx (.cons (.loc 0) (.cons (.con (.int 1)) .nil))) (.cons (.loc 3) .nil))) (.cons (.con (.int 0)) .nil))) (.app F_is_great (.cons (.loc 1) (.cons (.loc 2) (.cons (.loc 3) .nil))))))))))
def F_is_form : Fn := runF 3 4 b_is_form

-- is_row('thing', 'bounds', 'cell')  slots ['thing', 'bounds', 'cell', 'item']
def N_is_row : List Str := ["thing", "bounds", "cell", "item"]
def b_is_row : S := (.seq (.ite (.or (.app fNot (.cons (.app fIsi (.cons (.loc 0) (.cons (.con (.ty "tuple")) .nil))) .nil)) (.app fNot (.cons (.chn fLe fLe (.con (.int 1)) (.app fLen (.cons (.loc 0) .nil)) (.con (.int 12))) .nil)))
(.ret (.con (.bl false)))
.skip)
(.ret (.ofl gAll (.lc (.val (.loc 0)) (.nm 3) [3] .nil (.app F_is_form (.cons (.loc 3) (.cons (.loc 1) (.cons (.loc 2) .nil))))))))
def F_is_row : Fn := runF 3 4 b_is_row

-- Table_keep('self', 'bounds', 'measures', 'rows')  slots ['self', 'bounds', 'measures', 'rows']
def N_Table_keep : List Str := ["self", "bounds", "measures", "rows"]
def b_Table_keep : S := (.seq (.ex (.app (mSetF ["RawTable", "Table"] "bounds") (.cons (.loc 1) (.cons (.loc 0) .nil))))
(.seq (.ex (.app (mSetF ["RawTable", "Table"] "measures") (.cons (.loc 2) (.cons (.loc 0) .nil))))
(.ex (.app (mSetF ["RawTable", "Table"] "rows") (.cons (.loc 3) (.cons (.loc 0) .nil))))))
def F_Table_keep : Fn := runF 4 4 b_Table_keep

-- Table___init__('self', 'bounds', 'measures', 'rows')  slots ['self', 'bounds', 'measures', 'rows', 'cells', 'k', 'row']
def N_Table___init__ : List Str := ["self", "bounds", "measures", "rows", "cells", "k", "row"]
def b_Table___init__ : S := (.seq (.ite (.app fNot (.cons (.app F_are_bounds (.cons (.loc 1) .nil)) .nil))
.dead
.skip)
(.seq (.ite (.app fNot (.cons (.app F_are_measures (.cons (.loc 2) (.cons (.app fLen (.cons (.loc 1) .nil)) .nil))) .nil))
.dead
.skip)
(.seq (.ite (.app fGt (.cons (.app F_many_cells (.cons (.loc 1) (.cons (.loc 2) .nil))) (.cons (.con (.int 1000)) .nil)))
.dead
.skip)
(.seq (.set 4 (.app F_cells_of (.cons (.loc 1) (.cons (.loc 2) .nil))))
(.seq (.ite (.or (.app fNot (.cons (.app fIsi (.cons (.loc 3) (.cons (.con (.ty "tuple")) .nil))) .nil)) (.app fNe (.cons (.app fLen (.cons (.loc 3) .nil)) (.cons (.app fLen (.cons (.loc 4) .nil)) .nil))))
.dead
.skip)
(.seq (.for (.enu (.loc 3)) (.tp [5, 6])
(.ite (.or (.app fNot (.cons (.app F_is_row (.cons (.loc 6) (.cons (.loc 1) (.cons (.app fIx (.cons (.loc 4) (.cons (.loc 5) .nil))) .nil)))) .nil)) (.app fNe (.cons (.app fLen (.cons (.loc 6) .nil)) (.cons (.app fLen (.cons (.app fIx (.cons (.loc 3) (.cons (.con (.int 0)) .nil))) .nil)) .nil))))
.dead
.skip))
(.ex (.mth (isIn ["RawTable", "Table"] "keep") F_Table_keep (.loc 0) (.cons (.loc 1) (.cons (.loc 2) (.cons (.loc 3) .nil)))))))))))
def F_Table___init__ : Fn := runF 4 7 b_Table___init__

-- raw_cell('bounds', 'measures', 'given')  slots ['bounds', 'measures', 'given', 'found', 'bound', 'measure', 'number']
def N_raw_cell : List Str := ["bounds", "measures", "given", "found", "bound", "measure", "number"]
def b_raw_cell : S := (.seq (.set 3 (.app fTup .nil))
(.seq (.for (.zip3 (.loc 0) (.loc 1) (.loc 2)) (.tp [4, 5, 6])
(.set 3 (.app fAdd (.cons (.loc 3) (.cons (.app fTup (.cons (.ite (.app fLt (.cons (.loc 6) (.cons (.loc 4) .nil))) (.loc 6) (.app fAdd (.cons (.loc 4) (.cons (.app fMod (.cons (.app fSub (.cons (.loc 6) (.cons (.loc 4) .nil))) (.cons (.loc 5) .nil))) .nil)))) .nil)) .nil)))))
(.ret (.loc 3))))
def F_raw_cell : Fn := runF 3 7 b_raw_cell

-- place_of('bounds', 'measures', 'cell')  slots ['bounds', 'measures', 'cell', 'found', 'bound', 'measure', 'number']
def N_place_of : List Str := ["bounds", "measures", "cell", "found", "bound", "measure", "number"]
def b_place_of : S := (.seq (.set 3 (.con (.int 0)))
(.seq (.for (.zip3 (.loc 0) (.loc 1) (.loc 2)) (.tp [4, 5, 6])
(.set 3 (.app fAdd (.cons (.app fMul (.cons (.loc 3) (.cons (.app fAdd (.cons (.loc 4) (.cons (.loc 5) .nil))) .nil))) (.cons (.loc 6) .nil)))))
(.ret (.loc 3))))
def F_place_of : Fn := runF 3 7 b_place_of

-- raw_row('table', 'cell')  slots ['table', 'cell']
def N_raw_row : List Str := ["table", "cell"]
def b_raw_row : S := (.ret (.app fIx (.cons (.app (fFld ["RawTable", "Table"] "rows") (.cons (.loc 0) .nil)) (.cons (.app F_place_of (.cons (.app (fFld ["RawTable", "Table"] "bounds") (.cons (.loc 0) .nil)) (.cons (.app (fFld ["RawTable", "Table"] "measures") (.cons (.loc 0) .nil)) (.cons (.loc 1) .nil)))) .nil))))
def F_raw_row : Fn := runF 2 2 b_raw_row

-- form_value('form', 'times')  slots ['form', 'times', 'step', 'time']
def N_form_value : List Str := ["form", "times", "step", "time"]
def b_form_value : S := (.ret (.app fAdd (.cons (.app fIx (.cons (.loc 0) (.cons (.con (.int 0)) .nil))) (.cons (.ofl gSum (.lc (.zip (.app fIx (.cons (.loc 0) (.cons (.con (.int 1)) .nil))) (.loc 1)) (.tp [2, 3]) [2, 3] .nil (.app fMul (.cons (.loc 2) (.cons (.loc 3) .nil))))) .nil))))
def F_form_value : Fn := runF 2 4 b_form_value

-- raw_value('table', 'given')  slots ['table', 'given', 'cell', 'times', 'k', 'form']
def N_raw_value : List Str := ["table", "given", "cell", "times", "k", "form"]
def b_raw_value : S := (.seq (.set 2 (.app F_raw_cell (.cons (.app (fFld ["RawTable", "Table"] "bounds") (.cons (.loc 0) .nil)) (.cons (.app (fFld ["RawTable", "Table"] "measures") (.cons (.loc 0) .nil)) (.cons (.loc 1) .nil)))))
(.seq (.set 3 (.ofl gLst (.lc (.rng (.cons (.app fLen (.cons (.loc 2) .nil)) .nil)) (.nm 4) [4] .nil (.app fDiv (.cons (.app fSub (.cons (.app fIx (.cons (.loc 1) (.cons (.loc 4) .nil))) (.cons (.app fIx (.cons (.loc 2) (.cons (.loc 4) .nil))) .nil))) (.cons (.app fIx (.cons (.app (fFld ["RawTable", "Table"] "measures") (.cons (.loc 0) .nil)) (.cons (.loc 4) .nil))) .nil))))))
(.ret (.ofl gTuple (.lc (.val (.app F_raw_row (.cons (.loc 0) (.cons (.loc 2) .nil)))) (.nm 5) [5] .nil (.app F_form_value (.cons (.loc 5) (.cons (.loc 3) .nil))))))))
def F_raw_value : Fn := runF 2 6 b_raw_value

-- value('table', 'given')  slots ['table', 'given']
def N_value : List Str := ["table", "given"]
def b_value : S := (.seq (.ex (.app F_check_input (.cons (.loc 1) (.cons (.app fLen (.cons (.app (fFld ["RawTable", "Table"] "bounds") (.cons (.loc 0) .nil)) .nil)) .nil))))
(.ret (.app F_raw_value (.cons (.loc 0) (.cons (.loc 1) .nil)))))
def F_value : Fn := runF 2 2 b_value

-- cell_of('table', 'given')  slots ['table', 'given']
def N_cell_of : List Str := ["table", "given"]
def b_cell_of : S := (.seq (.ex (.app F_check_input (.cons (.loc 1) (.cons (.app fLen (.cons (.app (fFld ["RawTable", "Table"] "bounds") (.cons (.loc 0) .nil)) .nil)) .nil))))
(.ret (.app F_raw_cell (.cons (.app (fFld ["RawTable", "Table"] "bounds") (.cons (.loc 0) .nil)) (.cons (.app (fFld ["RawTable", "Table"] "measures") (.cons (.loc 0) .nil)) (.cons (.loc 1) .nil))))))
def F_cell_of : Fn := runF 2 2 b_cell_of

-- row_of('table', 'cell')  slots ['table', 'cell', 'k']
def N_row_of : List Str := ["table", "cell", "k"]
def b_row_of : S := (.seq (.ite (.app fNot (.cons (.app F_are_numbers (.cons (.loc 1) (.cons (.app fLen (.cons (.app (fFld ["RawTable", "Table"] "bounds") (.cons (.loc 0) .nil)) .nil)) .nil))) .nil))
.dead
.skip)
(.seq (.ite (.app fNot (.cons (.ofl gAll (.lc (.rng (.cons (.app fLen (.cons (.loc 1) .nil)) .nil)) (.nm 2) [2] .nil (.app fLt (.cons (.app fIx (.cons (.loc 1) (.cons (.loc 2) .nil))) (.cons (.app fAdd (.cons (.app fIx (.cons (.app (fFld ["RawTable", "Table"] "bounds") (.cons (.loc 0) .nil)) (.cons (.loc 2) .nil))) (.cons (.app fIx (.cons (.app (fFld ["RawTable", "Table"] "measures") (.cons (.loc 0) .nil)) (.cons (.loc 2) .nil))) .nil))) .nil))))) .nil))
.dead
.skip)
(.ret (.app F_raw_row (.cons (.loc 0) (.cons (.loc 1) .nil))))))
def F_row_of : Fn := runF 2 3 b_row_of

-- cells('table',)  slots ['table']
def N_cells : List Str := ["table"]
def b_cells : S := (.ret (.app F_cells_of (.cons (.app (fFld ["RawTable", "Table"] "bounds") (.cons (.loc 0) .nil)) (.cons (.app (fFld ["RawTable", "Table"] "measures") (.cons (.loc 0) .nil)) .nil))))
def F_cells : Fn := runF 1 1 b_cells
end Pg

/-! k26: pushes as plain data, and what the program's functions give of them. -/
namespace Pg
open PySem L2 Den
local macro_rules | `(tactic| walk_at "d") => `(tactic| first
  | ((with_reducible refine' i_loc ?h ?_); case h => exact rfl)
  | with_reducible refine w_seq.mpr ?_ | with_reducible refine w_set.mpr ?_ | with_reducible refine w_ex.mpr ?_ | with_reducible refine w_ret.mpr ?_ | with_reducible refine w_site.mpr ?_ | with_reducible refine w_asgn.mpr ?_ | with_reducible refine w_asgs.mpr ?_ | with_reducible refine w_asgT.mpr ?_
  | with_reducible refine w_skip.mpr ?_ | with_reducible refine sk_nx ?_ | with_reducible refine sk_ret ?_ | with_reducible refine sk_brk ?_ | with_reducible refine sk_cont ?_ | with_reducible refine rk_ret ?_ | with_reducible refine rk_nx ?_ | with_reducible refine tk_tup ?_
  | with_reducible refine bk_bl ?_ | with_reducible refine w_tnm.mpr ?_ | with_reducible refine w_tsub.mpr ?_ | with_reducible refine w_tnil.mpr ?_ | with_reducible refine wB_W.mpr ?_ | with_reducible refine w_con.mpr ?_ | with_reducible refine w_app.mpr ?_ | with_reducible refine w_cons.mpr ?_
  | with_reducible refine w_nil.mpr ?_ | with_reducible refine w_and.mpr ?_ | with_reducible refine w_or.mpr ?_ | with_reducible refine w_ite.mpr ?_ | with_reducible refine w_chn.mpr ?_ | with_reducible refine w_mth.mpr ?_ | with_reducible refine w_ofl.mpr ?_ | with_reducible refine w_ixl.mpr ?_
  | with_reducible refine w_dsp.mpr ?_ | with_reducible refine w_lapp.mpr ?_ | with_reducible refine w_ival.mpr ?_ | with_reducible refine w_irng.mpr ?_ | with_reducible refine w_ienu.mpr ?_ | with_reducible refine w_iofl.mpr ?_ | with_reducible refine i_T ?_ | with_reducible refine i_F ?_
  | with_reducible refine W_add ?_ | with_reducible refine W_sub ?_ | with_reducible refine W_addI ?_ | with_reducible refine W_subI ?_ | with_reducible refine W_neg ?_ | with_reducible refine W_not ?_ | with_reducible refine W_int ?_ | with_reducible refine W_abs ?_
  | with_reducible refine W_lt ?_ | with_reducible refine W_le ?_ | with_reducible refine W_gt ?_ | with_reducible refine W_ge ?_ | with_reducible refine W_eqI ?_ | with_reducible refine W_neI ?_ | with_reducible refine W_isN ?_ | with_reducible refine W_notN ?_
  | with_reducible refine W_tup ?_ | with_reducible refine W_gLst ?_ | with_reducible refine W_gTup ?_ | with_reducible refine W_gLen ?_ | with_reducible refine W_dic0 ?_ | with_reducible refine W_lenT ?_ | with_reducible refine W_tupT ?_ | with_reducible refine W_liT ?_
  | with_reducible refine W_slHT ?_ | with_reducible refine W_slLT ?_ | with_reducible refine W_slHS ?_ | with_reducible refine Wo_srcT ?_
  | ((with_reducible refine' W_mul ?h ?_); case h => first | exact .inr (.inl (by decide)) | exact .inl (by decide) | exact .inl (by omega))
  | ((with_reducible refine' W_div ?h ?_); case h => decide)
  | ((with_reducible refine' W_mod ?h ?_); case h => decide)
  | ((with_reducible refine' W_pow ?h ?_); case h => decide)
  | ((with_reducible refine' W_ixL ?h ?k ?_); (case h => assumption); (case k => first | exact atI_0 | exact atI_1 | exact atI_2 | exact atI_3 | assumption))
  | ((with_reducible refine' W_lenL ?h ?_); case h => assumption))

abbrev Ps := List (Str × Option Str × Int)
def encS : Option Str → PV
  | none => .non
  | some s => .str s
def encV (q : Option Str × Int) : PV := .tup [encS q.1, .int q.2]
def encP (ps : Ps) : List (Key × PV) := ps.map fun q => (.inr q.1, encV q.2)
def names8 : List Str := ["a", "b", "c", "d", "e", "x", "yy", "half"]
abbrev keys (ps : Ps) : List Str := ps.map (·.1)
structure Gd (ps : Ps) : Prop where
  nm : ∀ x ∈ keys ps, x ∈ names8
  nd : (keys ps).Nodup
  src : ∀ q ∈ ps, ∀ s, q.2.1 = some s → s ∈ keys ps
  mo : ∀ q ∈ ps, 0 ≤ q.2.2
  ne : ps ≠ []
def fnd (ps : Ps) (x : Str) : Option (Option Str × Int) := (ps.find? fun q => decide (q.1 = x)).map (·.2)
def nxt (ps : Ps) (x : Str) : Option Str := (fnd ps x).bind (·.1)
def more (ps : Ps) (x : Str) : Int := ((fnd ps x).map (·.2)).getD 0
theorem fnd_mem {ps : Ps} {x : Str} (h : x ∈ keys ps) : ∃ q, fnd ps x = some q ∧ (x, q) ∈ ps := by
  obtain ⟨q, hq, rfl⟩ := List.mem_map.mp h
  unfold fnd
  cases hf : ps.find? fun r => decide (r.1 = q.1) with
  | none =>
    have := List.find?_eq_none.mp hf q hq
    simp at this
  | some r =>
    have h1 := List.find?_some hf
    have h2 := List.mem_of_find?_eq_some hf
    simp only [decide_eq_true_eq] at h1
    exact ⟨r.2, rfl, by rw [← h1]; exact h2⟩
theorem getP_enc {ps : Ps} {x : Str} : getP (.inr x) (encP ps) = (fnd ps x).map encV := by
  unfold getP encP fnd
  induction ps with
  | nil => rfl
  | cons q ps ih =>
    simp only [List.map_cons, List.find?_cons]
    by_cases h : q.1 = x
    · subst h; simp
    · have h1 : decide ((Sum.inr q.1 : Key) = Sum.inr x) = false := by simpa using h
      have h2 : decide (q.1 = x) = false := by simpa using h
      rw [h1, h2]
      exact ih
theorem nxt_mem {ps : Ps} (G : Gd ps) {x y : Str} (h : nxt ps x = some y) : y ∈ keys ps := by
  unfold nxt fnd at h
  cases hf : ps.find? fun r => decide (r.1 = x) with
  | none => simp [hf] at h
  | some r =>
    rw [hf] at h
    exact G.src r (List.mem_of_find?_eq_some hf) y (by simpa using h)
theorem W_at {ps : Ps} {n : Nat} {x : Str} {lk : Bool} {st : Store} {P : PV → Store → Prop} (hd : st[n]? = some (.dic lk (encP ps))) (hx : x ∈ keys ps) (p : P (.tup [encS (nxt ps x), .int (more ps x)]) st) : W (fIx [.ref n, .str x] st) P := by
  obtain ⟨q, hq, _⟩ := fnd_mem hx
  refine W_ixD (k := .inr x) (v := encV q) hd rfl (by rw [getP_enc, hq]; rfl) ?_
  unfold nxt more at p
  rw [hq] at p
  exact p
/-! ### the way -/
def wlk (ps : Ps) : Nat → List Str → Option Str → List Str × Option Str
  | 0, row, here => (row, here)
  | _ + 1, row, none => (row, none)
  | n + 1, row, some h => if h ∈ row then (row, some h) else wlk ps n (row ++ [h]) (nxt ps h)
theorem wlk_none {ps : Ps} {row : List Str} : ∀ n, wlk ps n row none = (row, none)
  | 0 => rfl
  | _ + 1 => rfl
theorem wlk_in {ps : Ps} {row : List Str} {h : Str} (hm : h ∈ row) : ∀ n, wlk ps n row (some h) = (row, some h)
  | 0 => rfl
  | _ + 1 => by unfold wlk; rw [if_pos hm]
abbrev wend (ps : Ps) (x : Str) : List Str × Option Str := wlk ps (ps.length + 1) [] (some x)
def wayP (ps : Ps) (x : Str) : List Str × List Str := match (wend ps x).2 with
  | none => ((wend ps x).1, [])
  | some h => ((wend ps x).1.take ((wend ps x).1.idxOf h), (wend ps x).1.drop ((wend ps x).1.idxOf h))
def encR (row : List Str) : List PV := row.map PV.str
def encW (w : List Str × List Str) : PV := .tup [.tup (encR w.1), .tup (encR w.2)]
def encM (row : List Str) : List (Key × PV) := row.zipIdx.map fun q => (.inr q.1, .int (q.2 : Nat))
theorem encM_app {row : List Str} {h : Str} : encM (row ++ [h]) = encM row ++ [(.inr h, .int (row.length : Nat))] := by
  unfold encM
  rw [List.zipIdx_append]
  simp
theorem encM_keys {row : List Str} : (encM row).map (fun q => kP q.1) = encR row := by
  unfold encM encR
  rw [List.map_map]
  have : ((fun q : Key × PV => kP q.1) ∘ fun q : Str × Nat => ((Sum.inr q.1 : Key), PV.int (q.2 : Nat))) = fun q : Str × Nat => PV.str q.1 := rfl
  rw [this]
  have h2 : (fun q : Str × Nat => PV.str q.1) = PV.str ∘ Prod.fst := rfl
  rw [h2, ← List.map_map, List.zipIdx_map_fst]
theorem encM_get {row : List Str} {h : Str} : getP (.inr h) (encM row) = if h ∈ row then some (.int (row.idxOf h : Nat)) else none := by
  unfold encM
  have gen : ∀ (row : List Str) (k : Nat), getP (.inr h) ((row.zipIdx k).map fun q => ((Sum.inr q.1 : Key), PV.int (q.2 : Nat))) = if h ∈ row then some (.int ((k + row.idxOf h : Nat))) else none := fun row => by
    induction row with
    | nil => intro k; rfl
    | cons a row ih =>
      intro k
      simp only [List.zipIdx_cons, List.map_cons]
      unfold getP
      rw [List.find?_cons]
      by_cases e : a = h
      · subst e
        simp [List.idxOf_cons]
      · have h1 : decide ((Sum.inr a : Key) = Sum.inr h) = false := by simpa using e
        rw [h1]
        have := ih (k + 1)
        unfold getP at this
        simp only [this]
        have h2 : (a == h) = false := by simpa using e
        simp only [List.mem_cons, List.idxOf_cons, h2, cond_false]
        by_cases m : h ∈ row
        · rw [if_pos m, if_pos (Or.inr m)]
          congr 3
          omega
        · rw [if_neg m, if_neg (by simp [m, Ne.symm e])]
  have := gen row 0
  rw [Nat.zero_add] at this
  exact this
theorem putP_new {k : Key} {v : PV} {kvs : List (Key × PV)} (h : getP k kvs = none) : putP k v kvs = kvs ++ [(k, v)] := by
  unfold putP
  rw [if_neg]
  intro z
  obtain ⟨q, hq, hk⟩ := List.any_eq_true.mp z
  unfold getP at h
  cases hf : kvs.find? fun p => decide (p.1 = k) with
  | none =>
    have := List.find?_eq_none.mp hf q hq
    exact this hk
  | some r => rw [hf] at h; simp at h
theorem inP_str {h : Str} : ∀ {row : List Str}, inP (.str h) (encR row) = decide (h ∈ row)
  | [] => rfl
  | a :: row => by
    have ih := inP_str (h := h) (row := row)
    unfold inP encR at ih ⊢
    simp only [List.map_cons, List.any_cons, ih, peq, List.mem_cons]
    by_cases e : a = h
    · subst e; simp
    · simp [e, Ne.symm e]
theorem flat_encR : ∀ row : List Str, (encR row).all flatP = true
  | [] => rfl
  | a :: row => by
    show (flatP (.str a) && (encR row).all flatP) = true
    rw [flat_encR row]; rfl
theorem nodup_le : ∀ {l l' : List Str}, l.Nodup → (∀ x ∈ l, x ∈ l') → l.length ≤ l'.length
  | [], _, _, _ => Nat.zero_le _
  | a :: l, l', h, hs => by
    rw [List.nodup_cons] at h
    have ha : a ∈ l' := hs a List.mem_cons_self
    have := nodup_le (l := l) (l' := l'.erase a) h.2 fun x hx => (List.mem_erase_of_ne (fun e => h.1 (by rw [← e]; exact hx))).mpr (hs x (List.mem_cons_of_mem _ hx))
    rw [List.length_erase_of_mem ha] at this
    have hp : 0 < l'.length := List.length_pos_of_mem ha
    simp only [List.length_cons]
    omega
theorem nodup_len {ps : Ps} {row : List Str} (h : row.Nodup) (hs : ∀ x ∈ row, x ∈ keys ps) : row.length ≤ ps.length := by
  have := nodup_le h hs
  simpa using this
/-- the state of both walks -/
structure Wk (ps : Ps) (x : Str) (m : Nat) (row : List Str) (here : Option Str) : Prop where
  nd : row.Nodup
  sub : ∀ y ∈ row, y ∈ keys ps
  at_ : ∀ y, here = some y → y ∈ keys ps
  le : row.length + m = ps.length + 1
  eq : wlk ps m row here = wend ps x
theorem Wk.start {ps : Ps} {x : Str} (h : x ∈ keys ps) : Wk ps x (ps.length + 1) [] (some x) := ⟨List.nodup_nil, by simp, fun y e => by cases e; exact h, by simp, rfl⟩
theorem Wk.step {ps : Ps} (G : Gd ps) {x h : Str} {m : Nat} {row : List Str} (w : Wk ps x m row (some h)) (hn : h ∉ row) : ∃ m', m' < m ∧ Wk ps x m' (row ++ [h]) (nxt ps h) := by
  have := nodup_len w.nd w.sub
  have hm : m ≠ 0 := by have := w.le; omega
  obtain ⟨k, rfl⟩ := Nat.exists_eq_succ_of_ne_zero hm
  refine ⟨k, Nat.lt_succ_self _, ?_, ?_, fun y e => nxt_mem G e, ?_, ?_⟩
  · rw [List.nodup_append]
    exact ⟨w.nd, by simp, fun a ha b hb => by
      have : b = h := by simpa using hb
      subst this
      exact fun e => hn (by rw [← e]; exact ha)⟩
  · intro y hy
    rcases List.mem_append.mp hy with z | z
    · exact w.sub y z
    · have : y = h := by simpa using z
      rw [this]; exact w.at_ h rfl
  · have := w.le
    simp
    omega
  · have e := w.eq
    unfold wlk at e
    rw [if_neg hn] at e
    exact e
theorem take_enc {row : List Str} {k : Nat} : cutP (encR row) none (some (k : Int)) = encR (row.take k) := by rw [cutP_take, encR, encR, List.map_take]
theorem drop_enc {row : List Str} {k : Nat} : cutP (encR row) (some (k : Int)) none = encR (row.drop k) := by
  unfold cutP
  rw [HT.sIx_nat, HT.sIx_none]
  unfold encR
  rw [List.length_map, ← List.map_drop, ← List.map_take]
  congr 1
  by_cases h : k ≤ row.length
  · rw [Nat.min_eq_left h, List.take_of_length_le (by simp)]
  · rw [Nat.min_eq_right (by omega), List.drop_of_length_le (Nat.le_refl _), List.drop_of_length_le (by omega)]
    simp
theorem encS_ne {h : Str} : decide (PV.str h = PV.non) = false := by simp
theorem W_notInM {st : Store} {n : Nat} {lk : Bool} {row : List Str} {h : Str} {P : PV → Store → Prop} (hd : st[n]? = some (.dic lk (encM row))) (p : P (.bl (!decide (h ∈ row))) st) : W (fNotIn [.str h, .ref n] st) P := W_of (by
  simp only [fNotIn, inB, hd, getK, Den.keyOf, Option.map_some, encM_get]
  by_cases m : h ∈ row <;> simp [m]) p
theorem W_notInR {st : Store} {n : Nat} {row : List Str} {h : Str} {P : PV → Store → Prop} (hd : st[n]? = some (.lst (encR row))) (p : P (.bl (!decide (h ∈ row))) st) : W (fNotIn [.str h, .ref n] st) P := W_of (by
  simp only [fNotIn, inB, hd, flat_encR, inP_str]
  simp [flatP]) p
theorem fuel_lt {n : Nat} (h : n ≤ 1000) : n < fuel := by unfold fuel; omega
theorem raw_way_ok {ps : Ps} (G : Gd ps) (h8 : ps.length ≤ 8) {n : Nat} {x : Str} {lk : Bool} {st : Store} {P : PV → Store → Prop} (hd : st[n]? = some (.dic lk (encP ps))) (hx : x ∈ keys ps) (p : ∀ st', Fr [] st st' → P (encW (wayP ps x)) st') : W (F_raw_way [.ref n, .str x] st) P := by
  refine W_run rfl ?_
  unfold b_raw_way
  repeat walk_at "d"
  have hm : (st ++ [Ob.dic false []])[st.length]? = some (.dic false (encM [])) := app_new
  have hn : (st ++ [Ob.dic false []])[n]? = some (.dic lk (encP ps)) := app_get hd
  have f0 : Fr [] st (st ++ [Ob.dic false []]) := Fr.app _
  have nn : n ≠ st.length := fun e => ne_at hd e.symm
  generalize st ++ [Ob.dic false []] = st1 at *
  refine w_whl (fun m e s => ∃ row here, e = [some (.ref n), some (.str x), some (.ref st.length), some (encS here), none] ∧ Wk ps x m row here ∧ s[st.length]? = some (.dic false (encM row)) ∧ s[n]? = some (.dic lk (encP ps)) ∧ Fr [] st s) (n := ps.length + 1) (fuel_lt (by omega)) ⟨[], some x, rfl, Wk.start hx, hm, hn, f0⟩ ?_
  rintro m e s _ ⟨row, here, rfl, w, hm, hn, f⟩
  repeat walk_at "d"
  cases here with
  | none =>
    refine i_if (fun t => absurd t (by simp [encS])) fun _ => ?_
    repeat walk_at "d"
    refine W_tupDi hm ?_
    rw [encM_keys]
    repeat walk_at "d"
    refine i_if (fun _ => ?_) fun t => absurd t (by simp [encS])
    repeat walk_at "d"
    have e : wayP ps x = (row, []) := by
      unfold wayP
      rw [← w.eq, wlk_none]
    have := p s f
    rw [e] at this
    exact this
  | some h =>
    refine i_if (fun _ => ?_) fun t => absurd t (by simp [encS])
    repeat walk_at "d"
    refine W_notInM hm ?_
    repeat walk_at "d"
    refine i_if (fun t => ?_) fun t => ?_
    · have hmem : h ∉ row := by simpa using t
      have hk := w.at_ h rfl
      repeat walk_at "d"
      refine W_lenD hm ?_
      repeat walk_at "d"
      refine Wo_setD (k := .inr h) hm rfl (by
        unfold encM
        have := nodup_len w.nd w.sub
        simp
        omega) ?_
      rw [putP_new (by rw [encM_get, if_neg hmem])]
      have em : encM row ++ [(Sum.inr h, PV.int ((encM row).length : Nat))] = encM (row ++ [h]) := by
        rw [encM_app]
        unfold encM
        simp
      rw [em]
      have hm' := set_eq (o := .dic false (encM (row ++ [h]))) hm
      have hn' := set_ne (o := .dic false (encM (row ++ [h]))) hn nn.symm
      have f' : Fr [] st (s.set st.length (.dic false (encM (row ++ [h])))) := (f.mono (qs := [st.length]) (by simp)).trans (Fr.set (by simp)) |>.new (Nat.le_refl _)
      generalize s.set st.length (.dic false (encM (row ++ [h]))) = s2 at *
      repeat walk_at "d"
      refine W_at hn' hk ?_
      repeat walk_at "d"
      obtain ⟨m', lt, w'⟩ := w.step G hmem
      exact ⟨m', lt, row ++ [h], nxt ps h, rfl, w', hm', hn', f'⟩
    · have hmem : h ∈ row := by simpa using t
      repeat walk_at "d"
      refine W_tupDi hm ?_
      rw [encM_keys]
      repeat walk_at "d"
      refine i_if (fun t => absurd t (by simp [encS])) fun _ => ?_
      repeat walk_at "d"
      refine W_ixD (k := .inr h) hm rfl (by rw [encM_get, if_pos hmem]) ?_
      repeat walk_at "d"
      refine W_ixD (k := .inr h) hm rfl (by rw [encM_get, if_pos hmem]) ?_
      repeat walk_at "d"
      have e : wayP ps x = (row.take (row.idxOf h), row.drop (row.idxOf h)) := by
        unfold wayP
        rw [← w.eq, wlk_in hmem]
      have := p s f
      rw [e] at this
      rw [take_enc, drop_enc]
      exact this
end Pg

/-! k26: the law's own way; the checks. -/
namespace Pg
open PySem L2 Den
local macro_rules | `(tactic| walk_at "d") => `(tactic| first
  | ((with_reducible refine' i_loc ?h ?_); case h => exact rfl)
  | with_reducible refine w_seq.mpr ?_ | with_reducible refine w_set.mpr ?_ | with_reducible refine w_ex.mpr ?_ | with_reducible refine w_ret.mpr ?_ | with_reducible refine w_site.mpr ?_ | with_reducible refine w_asgn.mpr ?_ | with_reducible refine w_asgs.mpr ?_ | with_reducible refine w_asgT.mpr ?_
  | with_reducible refine w_skip.mpr ?_ | with_reducible refine sk_nx ?_ | with_reducible refine sk_ret ?_ | with_reducible refine sk_brk ?_ | with_reducible refine sk_cont ?_ | with_reducible refine rk_ret ?_ | with_reducible refine rk_nx ?_ | with_reducible refine tk_tup ?_
  | with_reducible refine bk_bl ?_ | with_reducible refine w_tnm.mpr ?_ | with_reducible refine w_tsub.mpr ?_ | with_reducible refine w_tnil.mpr ?_ | with_reducible refine wB_W.mpr ?_ | with_reducible refine w_con.mpr ?_ | with_reducible refine w_app.mpr ?_ | with_reducible refine w_cons.mpr ?_
  | with_reducible refine w_nil.mpr ?_ | with_reducible refine w_and.mpr ?_ | with_reducible refine w_or.mpr ?_ | with_reducible refine w_ite.mpr ?_ | with_reducible refine w_chn.mpr ?_ | with_reducible refine w_mth.mpr ?_ | with_reducible refine w_ofl.mpr ?_ | with_reducible refine w_ixl.mpr ?_
  | with_reducible refine w_dsp.mpr ?_ | with_reducible refine w_lapp.mpr ?_ | with_reducible refine w_ival.mpr ?_ | with_reducible refine w_irng.mpr ?_ | with_reducible refine w_ienu.mpr ?_ | with_reducible refine w_iofl.mpr ?_ | with_reducible refine i_T ?_ | with_reducible refine i_F ?_
  | with_reducible refine W_add ?_ | with_reducible refine W_sub ?_ | with_reducible refine W_addI ?_ | with_reducible refine W_subI ?_ | with_reducible refine W_neg ?_ | with_reducible refine W_not ?_ | with_reducible refine W_int ?_ | with_reducible refine W_abs ?_
  | with_reducible refine W_lt ?_ | with_reducible refine W_le ?_ | with_reducible refine W_gt ?_ | with_reducible refine W_ge ?_ | with_reducible refine W_eqI ?_ | with_reducible refine W_neI ?_ | with_reducible refine W_isN ?_ | with_reducible refine W_notN ?_
  | with_reducible refine W_tup ?_ | with_reducible refine W_gLst ?_ | with_reducible refine W_gTup ?_ | with_reducible refine W_gLen ?_ | with_reducible refine W_dic0 ?_ | with_reducible refine W_lenT ?_ | with_reducible refine W_tupT ?_ | with_reducible refine W_liT ?_
  | with_reducible refine W_slHT ?_ | with_reducible refine W_slLT ?_ | with_reducible refine W_slHS ?_ | with_reducible refine Wo_srcT ?_
  | ((with_reducible refine' W_mul ?h ?_); case h => first | exact .inr (.inl (by decide)) | exact .inl (by decide) | exact .inl (by omega))
  | ((with_reducible refine' W_div ?h ?_); case h => decide)
  | ((with_reducible refine' W_mod ?h ?_); case h => decide)
  | ((with_reducible refine' W_pow ?h ?_); case h => decide)
  | ((with_reducible refine' W_ixL ?h ?k ?_); (case h => assumption); (case k => first | exact atI_0 | exact atI_1 | exact atI_2 | exact atI_3 | assumption))
  | ((with_reducible refine' W_lenL ?h ?_); case h => assumption))

theorem idxP_enc {h : Str} : ∀ {row : List Str} {k : Nat}, h ∈ row → idxP (.str h) k (encR row) = some (k + row.idxOf h)
  | [], _, m => by simp at m
  | a :: row, k, m => by
    unfold encR
    simp only [List.map_cons, idxP, peq]
    by_cases e : a = h
    · subst e
      simp
    · refine Eq.trans (if_neg (by simpa using e)) ?_
      have m' : h ∈ row := by
        rcases List.mem_cons.mp m with z | z
        · exact absurd z.symm e
        · exact z
      have := idxP_enc (k := k + 1) m'
      unfold encR at this
      rw [this]
      have h2 : (a == h) = false := by simpa using e
      simp only [List.idxOf_cons, h2, cond_false]
      congr 1
      omega
theorem W_index {st : Store} {n : Nat} {row : List Str} {h : Str} {P : PV → Store → Prop} (hd : st[n]? = some (.lst (encR row))) (m : h ∈ row) (p : P (.int (row.idxOf h : Nat)) st) : W (mIndex [.ref n, .str h] st) P := W_of (by
  simp only [mIndex, lstAt, hd, Option.bind_some, flat_encR, idxP_enc m]
  simp [flatP]) p
theorem is_name_ok {x : Str} (h : x ∈ names8) (st : Store) : F_is_name [.str x] st = some (.bl true, st) := by
  simp only [names8, List.mem_cons, List.not_mem_nil, or_false] at h
  rcases h with rfl | rfl | rfl | rfl | rfl | rfl | rfl | rfl <;> rfl
theorem is_number_ok {i : Int} (h : 0 ≤ i) (st : Store) : F_is_number [.int i] st = some (.bl true, st) := by
  have e : F_is_number [.int i] st = some (.bl (decide (0 ≤ i)), st) := rfl
  rw [e, decide_eq_true h]
end Pg

/-! k26: the checks, way, gain, tail. -/
namespace Pg
open PySem L2 Den
local macro_rules | `(tactic| walk_at "d") => `(tactic| first
  | ((with_reducible refine' i_loc ?h ?_); case h => exact rfl)
  | with_reducible refine w_seq.mpr ?_ | with_reducible refine w_set.mpr ?_ | with_reducible refine w_ex.mpr ?_ | with_reducible refine w_ret.mpr ?_ | with_reducible refine w_site.mpr ?_ | with_reducible refine w_asgn.mpr ?_ | with_reducible refine w_asgs.mpr ?_ | with_reducible refine w_asgT.mpr ?_
  | with_reducible refine w_skip.mpr ?_ | with_reducible refine sk_nx ?_ | with_reducible refine sk_ret ?_ | with_reducible refine sk_brk ?_ | with_reducible refine sk_cont ?_ | with_reducible refine rk_ret ?_ | with_reducible refine rk_nx ?_ | with_reducible refine tk_tup ?_
  | with_reducible refine bk_bl ?_ | with_reducible refine w_tnm.mpr ?_ | with_reducible refine w_tsub.mpr ?_ | with_reducible refine w_tnil.mpr ?_ | with_reducible refine wB_W.mpr ?_ | with_reducible refine w_con.mpr ?_ | with_reducible refine w_app.mpr ?_ | with_reducible refine w_cons.mpr ?_
  | with_reducible refine w_nil.mpr ?_ | with_reducible refine w_and.mpr ?_ | with_reducible refine w_or.mpr ?_ | with_reducible refine w_ite.mpr ?_ | with_reducible refine w_chn.mpr ?_ | with_reducible refine w_mth.mpr ?_ | with_reducible refine w_ofl.mpr ?_ | with_reducible refine w_ixl.mpr ?_
  | with_reducible refine w_dsp.mpr ?_ | with_reducible refine w_lapp.mpr ?_ | with_reducible refine w_ival.mpr ?_ | with_reducible refine w_irng.mpr ?_ | with_reducible refine w_ienu.mpr ?_ | with_reducible refine w_iofl.mpr ?_ | with_reducible refine i_T ?_ | with_reducible refine i_F ?_
  | with_reducible refine W_add ?_ | with_reducible refine W_sub ?_ | with_reducible refine W_addI ?_ | with_reducible refine W_subI ?_ | with_reducible refine W_neg ?_ | with_reducible refine W_not ?_ | with_reducible refine W_int ?_ | with_reducible refine W_abs ?_
  | with_reducible refine W_lt ?_ | with_reducible refine W_le ?_ | with_reducible refine W_gt ?_ | with_reducible refine W_ge ?_ | with_reducible refine W_eqI ?_ | with_reducible refine W_neI ?_ | with_reducible refine W_isN ?_ | with_reducible refine W_notN ?_
  | with_reducible refine W_tup ?_ | with_reducible refine W_gLst ?_ | with_reducible refine W_gTup ?_ | with_reducible refine W_gLen ?_ | with_reducible refine W_dic0 ?_ | with_reducible refine W_lenT ?_ | with_reducible refine W_tupT ?_ | with_reducible refine W_liT ?_
  | with_reducible refine W_slHT ?_ | with_reducible refine W_slLT ?_ | with_reducible refine W_slHS ?_ | with_reducible refine Wo_srcT ?_
  | ((with_reducible refine' W_mul ?h ?_); case h => first | exact .inr (.inl (by decide)) | exact .inl (by decide) | exact .inl (by omega))
  | ((with_reducible refine' W_div ?h ?_); case h => decide)
  | ((with_reducible refine' W_mod ?h ?_); case h => decide)
  | ((with_reducible refine' W_pow ?h ?_); case h => decide)
  | ((with_reducible refine' W_ixL ?h ?k ?_); (case h => assumption); (case k => first | exact atI_0 | exact atI_1 | exact atI_2 | exact atI_3 | assumption))
  | ((with_reducible refine' W_lenL ?h ?_); case h => assumption))

theorem asB_true {α : Type} : ∀ l : List α, asBools (l.map fun _ => PV.bl true) = some (l.map fun _ => true)
  | [] => rfl
  | a :: l => by
    show (asBools (l.map fun _ => PV.bl true)).map _ = _
    rw [asB_true l]; rfl
theorem W_allT {α : Type} {l : List α} {st : Store} {P : PV → Store → Prop} (p : P (.bl true) st) : W (gAll (l.map fun _ => PV.bl true) st) P := W_of (by
  simp only [gAll, asB_true, Option.map_some]
  congr 2
  simp) p
theorem enc_mem {ps : Ps} {k : Key} {v : PV} (h : (k, v) ∈ encP ps) : ∃ x, x ∈ keys ps ∧ k = .inr x := by
  obtain ⟨q, hq, e⟩ := List.mem_map.mp h
  cases e
  exact ⟨q.1, List.mem_map.mpr ⟨q, hq, rfl⟩, rfl⟩
theorem enc_get {ps : Ps} {k : Key} {v : PV} {j : Nat} (h : (encP ps)[j]? = some (k, v)) : ∃ x, x ∈ keys ps ∧ k = .inr x ∧ (keys ps)[j]? = some x := by
  unfold encP at h
  rw [List.getElem?_map] at h
  cases hq : ps[j]? with
  | none => simp [hq] at h
  | some q =>
    rw [hq] at h
    cases h
    exact ⟨q.1, List.mem_map.mpr ⟨q, List.mem_of_getElem? hq, rfl⟩, rfl, by rw [List.getElem?_map, hq]; rfl⟩
theorem W_notInP {ps : Ps} {st : Store} {n : Nat} {lk : Bool} {x : Str} {P : PV → Store → Prop} (hd : st[n]? = some (.dic lk (encP ps))) (hx : x ∈ keys ps) (p : P (.bl false) st) : W (fNotIn [.str x, .ref n] st) P := by
  obtain ⟨q, hq, _⟩ := fnd_mem hx
  refine W_of ?_ p
  simp only [fNotIn, inB, hd, getK, Den.keyOf, Option.map_some, getP_enc, hq, Option.isSome]
  rfl
theorem nxt_name {ps : Ps} (G : Gd ps) {x y : Str} (h : nxt ps x = some y) : y ∈ names8 := G.nm y (nxt_mem G h)
theorem more_nn {ps : Ps} (G : Gd ps) (x : Str) : 0 ≤ more ps x := by
  unfold more fnd
  cases hf : ps.find? fun r => decide (r.1 = x) with
  | none => simp
  | some r => exact G.mo r (List.mem_of_find?_eq_some hf)
theorem enc_len {ps : Ps} : (encP ps).length = ps.length := by unfold encP; simp
theorem is_push_ok {ps : Ps} (G : Gd ps) (h8 : ps.length ≤ 8) {n : Nat} {lk : Bool} {st : Store} (hd : st[n]? = some (.dic lk (encP ps))) {P : PV → Store → Prop} (p : P (.bl true) st) : W (F_is_push [.ref n] st) P := by
  refine W_run rfl ?_
  unfold b_is_push
  repeat walk_at "d"
  refine W_isiD hd ?_
  repeat walk_at "d"
  refine i_if (fun t => absurd t (by simp)) fun _ => ?_
  repeat walk_at "d"
  refine W_lenD hd ?_
  repeat walk_at "d"
  refine i_if (fun t => ?_) fun _ => ?_
  · exfalso
    rw [enc_len] at t
    have : ps.length ≠ 0 := fun e => G.ne (List.eq_nil_of_length_eq_zero e)
    simp at t
    exact G.ne t
  repeat walk_at "d"
  refine w_lcD (fun _ => true) (fun _ => .bl true) rfl hd (by rw [enc_len]; omega) (fun k v hk => ?_) ?_
  · obtain ⟨x, hx, rfl⟩ := enc_mem hk
    refine ⟨_, rfl, wB_nil, fun _ => ?_⟩
    repeat walk_at "d"
    exact W_of (is_name_ok (G.nm x hx) _) ⟨rfl, rfl⟩
  rw [filter_true]
  refine W_allT ?_
  repeat walk_at "d"
  refine i_if (fun t => absurd t (by simp)) fun _ => ?_
  repeat walk_at "d"
  refine w_forD (fun j e s => s = st.set n (.dic true (encP ps)) ∧ ∃ o q, e = [some (.ref n), o, q]) rfl hd ⟨rfl, none, none, rfl⟩ (fun j e s h => by rw [h.1]; exact set_eq hd) ?_ ?_
  · rintro j k v e s hk ⟨rfl, o, q, rfl⟩
    obtain ⟨x, hx, rfl, _⟩ := enc_get hk
    have hd' : (st.set n (.dic true (encP ps)))[n]? = some (.dic true (encP ps)) := set_eq hd
    generalize st.set n (.dic true (encP ps)) = s at *
    refine ⟨_, rfl, ?_⟩
    repeat walk_at "d"
    refine W_at hd' hx ?_
    repeat walk_at "d"
    refine W_isiT ?_
    repeat walk_at "d"
    refine i_if (fun t => absurd t (by simp)) fun _ => ?_
    repeat walk_at "d"
    refine i_if (fun t => absurd t (by simp)) fun _ => ?_
    repeat walk_at "d"
    refine W_ixT atI_1 ?_
    repeat walk_at "d"
    refine W_of (is_number_ok (more_nn G x) _) ?_
    repeat walk_at "d"
    refine i_if (fun t => absurd t (by simp)) fun _ => ?_
    repeat walk_at "d"
    refine W_ixT atI_0 ?_
    repeat walk_at "d"
    cases hn : nxt ps x with
    | none =>
      refine i_if (fun t => absurd t (by simp [encS])) fun _ => ?_
      repeat walk_at "d"
      exact ⟨rfl, _, _, rfl⟩
    | some y =>
      refine i_if (fun _ => ?_) fun t => absurd t (by simp [encS])
      repeat walk_at "d"
      refine W_ixT atI_0 ?_
      repeat walk_at "d"
      refine W_of (is_name_ok (nxt_name G hn) _) ?_
      repeat walk_at "d"
      refine i_if (fun t => absurd t (by simp)) fun _ => ?_
      repeat walk_at "d"
      refine W_ixT atI_0 ?_
      repeat walk_at "d"
      refine W_notInP hd' (nxt_mem G hn) ?_
      repeat walk_at "d"
      exact ⟨rfl, _, _, rfl⟩
  · rintro e s ⟨rfl, o, q, rfl⟩
    rw [lk_back hd]
    repeat walk_at "d"
    exact p
theorem check_push_ok {ps : Ps} (G : Gd ps) (h8 : ps.length ≤ 8) {n : Nat} {lk : Bool} {st : Store} (hd : st[n]? = some (.dic lk (encP ps))) {P : PV → Store → Prop} (p : P .non st) : W (F_check_push [.ref n] st) P := by
  refine W_run rfl ?_
  unfold b_check_push
  repeat walk_at "d"
  refine is_push_ok G h8 hd ?_
  repeat walk_at "d"
  refine i_if (fun t => absurd t (by simp)) fun _ => ?_
  repeat walk_at "d"
  exact p
theorem check_name_ok {ps : Ps} (G : Gd ps) {n : Nat} {x : Str} {lk : Bool} {st : Store} (hd : st[n]? = some (.dic lk (encP ps))) (hx : x ∈ keys ps) {P : PV → Store → Prop} (p : P .non st) : W (F_check_name_in [.str x, .ref n] st) P := by
  refine W_run rfl ?_
  unfold b_check_name_in
  repeat walk_at "d"
  refine W_of (is_name_ok (G.nm x hx) _) ?_
  repeat walk_at "d"
  refine i_if (fun t => absurd t (by simp)) fun _ => ?_
  repeat walk_at "d"
  refine W_notInP hd hx ?_
  repeat walk_at "d"
  exact p
theorem way_ok {ps : Ps} (G : Gd ps) (h8 : ps.length ≤ 8) {n : Nat} {x : Str} {lk : Bool} {st : Store} {P : PV → Store → Prop} (hd : st[n]? = some (.dic lk (encP ps))) (hx : x ∈ keys ps) (p : ∀ st', Fr [] st st' → P (encW (wayP ps x)) st') : W (F_way [.ref n, .str x] st) P := by
  refine W_run rfl ?_
  unfold b_way
  repeat walk_at "d"
  refine check_push_ok G h8 hd ?_
  repeat walk_at "d"
  refine check_name_ok G hd hx ?_
  repeat walk_at "d"
  refine raw_way_ok G h8 hd hx fun st' f => ?_
  repeat walk_at "d"
  exact p st' f
def gainP (ps : Ps) (x : Str) : Int := ((wayP ps x).2.map (more ps)).sum
theorem way_sub {ps : Ps} {x : Str} (hx : x ∈ keys ps) (G : Gd ps) : (∀ y ∈ (wayP ps x).1, y ∈ keys ps) ∧ ∀ y ∈ (wayP ps x).2, y ∈ keys ps := by
  have key : ∀ (m : Nat) (row : List Str) (here : Option Str), (∀ y ∈ row, y ∈ keys ps) → (∀ y, here = some y → y ∈ keys ps) → ∀ y ∈ (wlk ps m row here).1, y ∈ keys ps := fun m => by
    induction m with
    | zero => intro row here h1 h2 y hy; exact h1 y hy
    | succ m ih =>
      intro row here h1 h2 y hy
      cases here with
      | none => exact h1 y hy
      | some h =>
        unfold wlk at hy
        split at hy
        · exact h1 y hy
        · refine ih (row ++ [h]) (nxt ps h) (fun z hz => ?_) (fun z e => nxt_mem G e) y hy
          rcases List.mem_append.mp hz with q | q
          · exact h1 z q
          · have : z = h := by simpa using q
            rw [this]; exact h2 h rfl
  have k := key (ps.length + 1) [] (some x) (by simp) (fun y e => by cases e; exact hx)
  unfold wayP
  cases (wend ps x).2 with
  | none => exact ⟨k, by simp⟩
  | some h => exact ⟨fun y hy => k y (List.mem_of_mem_take hy), fun y hy => k y (List.mem_of_mem_drop hy)⟩
theorem wend_len {ps : Ps} (G : Gd ps) {x : Str} (hx : x ∈ keys ps) : (wend ps x).1.length ≤ ps.length ∧ (wend ps x).1.Nodup := by
  have key : ∀ (m : Nat) (row : List Str) (here : Option Str), row.Nodup → (∀ y ∈ row, y ∈ keys ps) → (∀ y, here = some y → y ∈ keys ps) → (wlk ps m row here).1.Nodup ∧ ∀ y ∈ (wlk ps m row here).1, y ∈ keys ps := fun m => by
    induction m with
    | zero => intro row here h0 h1 h2; exact ⟨h0, h1⟩
    | succ m ih =>
      intro row here h0 h1 h2
      cases here with
      | none => exact ⟨h0, h1⟩
      | some h =>
        unfold wlk
        split
        · exact ⟨h0, h1⟩
        · rename_i hn
          refine ih (row ++ [h]) (nxt ps h) ?_ (fun z hz => ?_) (fun z e => nxt_mem G e)
          · rw [List.nodup_append]
            exact ⟨h0, by simp, fun a ha b hb => by
              have : b = h := by simpa using hb
              subst this
              exact fun e => hn (by rw [← e]; exact ha)⟩
          · rcases List.mem_append.mp hz with q | q
            · exact h1 z q
            · have : z = h := by simpa using q
              rw [this]; exact h2 h rfl
  obtain ⟨a, b⟩ := key (ps.length + 1) [] (some x) List.nodup_nil (by simp) (fun y e => by cases e; exact hx)
  exact ⟨nodup_len a b, a⟩
theorem map_encR (f : Str → Int) (row : List Str) : ((encR row).map fun v => match v with | .str y => PV.int (f y) | v => v) = (row.map f).map PV.int := by
  unfold encR
  rw [List.map_map, List.map_map]; rfl
theorem W_sumG {st : Store} {ns : List Int} {P : PV → Store → Prop} (p : P (.int ns.sum) st) : W (gSum (ns.map PV.int) st) P := W_of (by simp [gSum, asInts_map]) p
theorem ring_len {ps : Ps} (G : Gd ps) {x : Str} (hx : x ∈ keys ps) : (wayP ps x).1.length ≤ ps.length ∧ (wayP ps x).2.length ≤ ps.length := by
  have := (wend_len G hx).1
  unfold wayP
  cases (wend ps x).2 with
  | none => exact ⟨this, by simp⟩
  | some h => simp; omega
theorem raw_gain_ok {ps : Ps} (G : Gd ps) (h8 : ps.length ≤ 8) {n : Nat} {x : Str} {lk : Bool} {st : Store} {P : PV → Store → Prop} (hd : st[n]? = some (.dic lk (encP ps))) (hx : x ∈ keys ps) (p : ∀ st', Fr [] st st' → P (.int (gainP ps x)) st') : W (F_raw_gain [.ref n, .str x] st) P := by
  refine W_run rfl ?_
  unfold b_raw_gain
  repeat walk_at "d"
  rw [w_lc]
  simp only [lkOf, setLk]
  repeat walk_at "d"
  refine raw_way_ok G h8 hd hx fun st' f => ?_
  have hd' := f.get hd (by simp)
  repeat walk_at "d"
  refine W_ixT atI_1 ?_
  repeat walk_at "d"
  refine W_comp (fun _ => true) (fun v => match v with | .str y => PV.int (more ps y) | v => v) rfl (by have := (ring_len G hx).2; simp [encR]; omega) (fun v hv => ?_) ?_
  · obtain ⟨y, hy, rfl⟩ := List.mem_map.mp hv
    refine ⟨_, rfl, wB_nil, fun _ => ?_⟩
    change wE _ _ _ _
    repeat walk_at "d"
    refine W_at hd' ((way_sub hx G).2 y hy) ?_
    repeat walk_at "d"
    refine W_ixT atI_1 ?_
    exact ⟨rfl, rfl⟩
  rw [filter_true, map_encR, List.nil_append]
  refine W_sumG ?_
  repeat walk_at "d"
  exact p st' f
theorem gain_ok {ps : Ps} (G : Gd ps) (h8 : ps.length ≤ 8) {n : Nat} {x : Str} {lk : Bool} {st : Store} {P : PV → Store → Prop} (hd : st[n]? = some (.dic lk (encP ps))) (hx : x ∈ keys ps) (p : ∀ st', Fr [] st st' → P (.int (gainP ps x)) st') : W (F_gain [.ref n, .str x] st) P := by
  refine W_run rfl ?_
  unfold b_gain
  repeat walk_at "d"
  refine check_push_ok G h8 hd ?_
  repeat walk_at "d"
  refine check_name_ok G hd hx ?_
  repeat walk_at "d"
  refine raw_gain_ok G h8 hd hx fun st' f => ?_
  repeat walk_at "d"
  exact p st' f
end Pg

/-! k26: tail, turn. -/
namespace Den
open PySem L2
theorem Fr.unlock {n : Nat} {st s : Store} {lk : Bool} {kvs : List (Key × PV)} (f : Fr [] (st.set n (.dic true kvs)) s) (hd : st[n]? = some (.dic lk kvs)) : Fr [] st (s.set n (.dic lk kvs)) := by
  have hn := (List.getElem?_eq_some_iff.mp hd).1
  have hl := f.le
  rw [List.length_set] at hl
  refine ⟨by simpa using hl, fun i hi _ => ?_⟩
  by_cases e : n = i
  · subst e
    rw [List.getElem?_set_self (by omega), hd]
  · rw [List.getElem?_set_ne e, f.eq i (by simpa using hi) (by simp), List.getElem?_set_ne e]
theorem Fr.lockD {n : Nat} {st s : Store} {lk : Bool} {kvs : List (Key × PV)} (f : Fr [] (st.set n (.dic true kvs)) s) (hd : st[n]? = some (.dic lk kvs)) : s[n]? = some (.dic true kvs) := f.get (set_eq hd) (by simp)
/-- [.. for x in d], what is new may be left -/
theorem w_lcDI {i n : Nat} {g : Tg} {own : List Nat} {e : E} {env : Env} {st : Store} {lk : Bool} {kvs : List (Key × PV)} {P : List PV → Store → Prop} (f : PV → PV) (h : env[i]? = some (some (.ref n))) (hd : st[n]? = some (.dic lk kvs)) (hl : kvs.length ≤ 16000000)
    (hs : ∀ (k : Key) (v : PV) (s : Store), (k, v) ∈ kvs → Fr [] (st.set n (.dic true kvs)) s → ∃ e1, bindT g (wipe env own) (kP k) = some e1 ∧ wE e e1 s fun v s' => v = f (kP k) ∧ Fr [] s s')
    (p : ∀ st', Fr [] st st' → P ((kvs.map fun q => kP q.1).map f) st') : wL (.lc (.val (.loc i)) g own .nil e) env st P := by
  rw [w_lc, lk_dict h hd, lk_on hd]
  refine w_ival.mpr (i_loc h ?_)
  refine Wo_srcD (set_eq hd) ?_
  refine comp_inv (fun k acc s => acc = ((kvs.map fun q => kP q.1).take k).map f ∧ Fr [] (st.set n (.dic true kvs)) s) (k := 0) (n := kvs.length) (by simp) ⟨by simp, Fr.refl⟩ (fun j x acc s hx hI => ?_) (fun acc s hI => ?_)
  · rw [Nat.zero_add] at hI ⊢
    obtain ⟨rfl, fr⟩ := hI
    have hx' := hx
    simp only [List.getElem?_map] at hx
    cases hk : kvs[j]? with
    | none => simp [hk] at hx
    | some kv =>
      obtain ⟨k, v⟩ := kv
      rw [hk] at hx
      have : kP k = x := by simpa using hx
      subst this
      obtain ⟨e1, he, hw⟩ := hs k v s (List.mem_of_getElem? hk) fr
      refine ⟨rfl, e1, he, ?_⟩
      simp only [dTs, W_some, if_true]
      have hj := (List.getElem?_eq_some_iff.mp hk).1
      refine W.mono hw fun y s' ⟨ey, fy⟩ => ⟨by simp; omega, ?_, fr.trans fy⟩
      rw [List.take_add_one, hx', ey]
      simp
  · obtain ⟨rfl, fr⟩ := hI
    refine ⟨rfl, ?_⟩
    have e : ((kvs.map fun q => kP q.1).take kvs.length) = (kvs.map fun q => kP q.1) := List.take_of_length_le (by simp)
    rw [lk_off (fr.lockD hd), e]
    exact p _ (fr.unlock hd)
end Den
namespace Pg
open PySem L2 Den
local macro_rules | `(tactic| walk_at "d") => `(tactic| first
  | ((with_reducible refine' i_loc ?h ?_); case h => exact rfl)
  | with_reducible refine w_seq.mpr ?_ | with_reducible refine w_set.mpr ?_ | with_reducible refine w_ex.mpr ?_ | with_reducible refine w_ret.mpr ?_ | with_reducible refine w_site.mpr ?_ | with_reducible refine w_asgn.mpr ?_ | with_reducible refine w_asgs.mpr ?_ | with_reducible refine w_asgT.mpr ?_
  | with_reducible refine w_skip.mpr ?_ | with_reducible refine sk_nx ?_ | with_reducible refine sk_ret ?_ | with_reducible refine sk_brk ?_ | with_reducible refine sk_cont ?_ | with_reducible refine rk_ret ?_ | with_reducible refine rk_nx ?_ | with_reducible refine tk_tup ?_
  | with_reducible refine bk_bl ?_ | with_reducible refine w_tnm.mpr ?_ | with_reducible refine w_tsub.mpr ?_ | with_reducible refine w_tnil.mpr ?_ | with_reducible refine wB_W.mpr ?_ | with_reducible refine w_con.mpr ?_ | with_reducible refine w_app.mpr ?_ | with_reducible refine w_cons.mpr ?_
  | with_reducible refine w_nil.mpr ?_ | with_reducible refine w_and.mpr ?_ | with_reducible refine w_or.mpr ?_ | with_reducible refine w_ite.mpr ?_ | with_reducible refine w_chn.mpr ?_ | with_reducible refine w_mth.mpr ?_ | with_reducible refine w_ofl.mpr ?_ | with_reducible refine w_ixl.mpr ?_
  | with_reducible refine w_dsp.mpr ?_ | with_reducible refine w_lapp.mpr ?_ | with_reducible refine w_ival.mpr ?_ | with_reducible refine w_irng.mpr ?_ | with_reducible refine w_ienu.mpr ?_ | with_reducible refine w_iofl.mpr ?_ | with_reducible refine i_T ?_ | with_reducible refine i_F ?_
  | with_reducible refine W_add ?_ | with_reducible refine W_sub ?_ | with_reducible refine W_addI ?_ | with_reducible refine W_subI ?_ | with_reducible refine W_neg ?_ | with_reducible refine W_not ?_ | with_reducible refine W_int ?_ | with_reducible refine W_abs ?_
  | with_reducible refine W_lt ?_ | with_reducible refine W_le ?_ | with_reducible refine W_gt ?_ | with_reducible refine W_ge ?_ | with_reducible refine W_eqI ?_ | with_reducible refine W_neI ?_ | with_reducible refine W_isN ?_ | with_reducible refine W_notN ?_
  | with_reducible refine W_tup ?_ | with_reducible refine W_gLst ?_ | with_reducible refine W_gTup ?_ | with_reducible refine W_gLen ?_ | with_reducible refine W_dic0 ?_ | with_reducible refine W_lenT ?_ | with_reducible refine W_tupT ?_ | with_reducible refine W_liT ?_
  | with_reducible refine W_slHT ?_ | with_reducible refine W_slLT ?_ | with_reducible refine W_slHS ?_ | with_reducible refine Wo_srcT ?_
  | ((with_reducible refine' W_mul ?h ?_); case h => first | exact .inr (.inl (by decide)) | exact .inl (by decide) | exact .inl (by omega))
  | ((with_reducible refine' W_div ?h ?_); case h => decide)
  | ((with_reducible refine' W_mod ?h ?_); case h => decide)
  | ((with_reducible refine' W_pow ?h ?_); case h => decide)
  | ((with_reducible refine' W_ixL ?h ?k ?_); (case h => assumption); (case k => first | exact atI_0 | exact atI_1 | exact atI_2 | exact atI_3 | assumption))
  | ((with_reducible refine' W_lenL ?h ?_); case h => assumption))

def onS (f : Str → Int) (v : PV) : PV := match v with
  | .str y => .int (f y)
  | v => v
theorem map_onS (f : Str → Int) (row : List Str) : (encR row).map (onS f) = (row.map f).map PV.int := by
  unfold encR
  rw [List.map_map, List.map_map]; rfl
def tailP (ps : Ps) : Int := maxI ((keys ps).map fun x => ((wayP ps x).1.length : Int))
theorem enc_keys {ps : Ps} : (encP ps).map (fun q => kP q.1) = encR (keys ps) := by
  unfold encP encR keys
  rw [List.map_map, List.map_map]; rfl
theorem W_maxG {st : Store} {ns : List Int} {P : PV → Store → Prop} (h : ns ≠ []) (p : P (.int (maxI ns)) st) : W (gMax (ns.map PV.int) st) P := W_of (by simp only [gMax, asInts_map, Option.bind_some, if_neg h]) p
theorem keys_ne {ps : Ps} (G : Gd ps) : keys ps ≠ [] := by
  intro e
  exact G.ne (List.map_eq_nil_iff.mp e)
theorem raw_tail_ok {ps : Ps} (G : Gd ps) (h8 : ps.length ≤ 8) {n : Nat} {lk : Bool} {st : Store} {P : PV → Store → Prop} (hd : st[n]? = some (.dic lk (encP ps))) (p : ∀ st', Fr [] st st' → P (.int (tailP ps)) st') : W (F_raw_tail [.ref n] st) P := by
  refine W_run rfl ?_
  unfold b_raw_tail
  repeat walk_at "d"
  refine w_lcDI (onS fun y => ((wayP ps y).1.length : Int)) rfl hd (by rw [enc_len]; omega) (fun k v s hk fr => ?_) fun st' f => ?_
  · obtain ⟨x, hx, rfl⟩ := enc_mem hk
    refine ⟨_, rfl, ?_⟩
    repeat walk_at "d"
    refine raw_way_ok G h8 (fr.lockD hd) hx fun st' f => ?_
    repeat walk_at "d"
    refine W_ixT atI_0 ?_
    repeat walk_at "d"
    exact ⟨by simp [encR, kP, onS], f⟩
  rw [enc_keys, map_onS]
  refine W_maxG (by simpa using G.ne) ?_
  repeat walk_at "d"
  exact p st' f
theorem tail_ok {ps : Ps} (G : Gd ps) (h8 : ps.length ≤ 8) {n : Nat} {lk : Bool} {st : Store} {P : PV → Store → Prop} (hd : st[n]? = some (.dic lk (encP ps))) (p : ∀ st', Fr [] st st' → P (.int (tailP ps)) st') : W (F_tail [.ref n] st) P := by
  refine W_run rfl ?_
  unfold b_tail
  repeat walk_at "d"
  refine check_push_ok G h8 hd ?_
  repeat walk_at "d"
  refine raw_tail_ok G h8 hd fun st' f => ?_
  repeat walk_at "d"
  exact p st' f
/-! ### gcd, lcm -/
theorem gcd_ok {a b : Nat} (hb : b ≤ 1000) {st : Store} {P : PV → Store → Prop} (p : P (.int (Nat.gcd a b : Nat)) st) : W (F_common_divisor [.int (a : Nat), .int (b : Nat)] st) P := by
  refine W_run rfl ?_
  unfold b_common_divisor
  repeat walk_at "d"
  rw [if_neg (by omega : ¬ ((a : Int) < 0)), if_neg (by omega : ¬ ((b : Int) < 0))]
  refine w_whl (fun m e s => ∃ one : Nat, e = [some (.int (one : Nat)), some (.int (m : Nat))] ∧ Nat.gcd one m = Nat.gcd a b ∧ s = st) (n := b) (fuel_lt hb) ⟨a, rfl, rfl, rfl⟩ ?_
  rintro m e s _ ⟨one, rfl, hg, rfl⟩
  repeat walk_at "d"
  refine i_if (fun t => ?_) fun t => ?_
  · have hm : 0 < m := by simpa using t
    repeat walk_at "d"
    refine W_mod (by omega) ?_
    repeat walk_at "d"
    refine ⟨one % m, Nat.mod_lt _ hm, m, by simp, ?_, rfl⟩
    rw [← hg, Nat.gcd_comm m (one % m), ← Nat.gcd_rec, Nat.gcd_comm]
  · have hm : m = 0 := by simpa using t
    subst hm
    repeat walk_at "d"
    rw [Nat.gcd_zero_right] at hg
    rw [hg]
    exact p
theorem lcm_ok {a b : Nat} (hb : b ≤ 1000) (h0 : 0 < b) {st : Store} {P : PV → Store → Prop} (p : P (.int (Nat.lcm a b : Nat)) st) : W (F_common_multiple [.int (a : Nat), .int (b : Nat)] st) P := by
  refine W_run rfl ?_
  unfold b_common_multiple
  repeat walk_at "d"
  refine gcd_ok hb ?_
  repeat walk_at "d"
  have g0 : 0 < Nat.gcd a b := Nat.gcd_pos_of_pos_right _ h0
  have g1 : Nat.gcd a b ≤ 1000000 := Nat.le_trans (Nat.gcd_le_right _ h0) (by omega)
  with_reducible refine W_div ?_ ?_
  · exact ⟨by omega, big200 g1⟩
  repeat walk_at "d"
  with_reducible refine W_mul ?_ ?_
  · exact .inr (.inl ⟨by omega, by omega⟩)
  repeat walk_at "d"
  have e : (a : Int) / (Nat.gcd a b : Nat) * (b : Int) = (Nat.lcm a b : Nat) := by
    have h1 : a / Nat.gcd a b * b = Nat.lcm a b := by
      unfold Nat.lcm
      rw [Nat.mul_comm a b, Nat.mul_div_assoc _ (Nat.gcd_dvd_left a b), Nat.mul_comm]
    rw [← h1]
    simp
  rw [e]
  exact p
def turnF (ps : Ps) (acc : Nat) (x : Str) : Nat := if 0 < (wayP ps x).2.length then Nat.lcm acc (wayP ps x).2.length else acc
def turnP (ps : Ps) : Nat := (keys ps).foldl (turnF ps) 1
theorem raw_turn_ok {ps : Ps} (G : Gd ps) (h8 : ps.length ≤ 8) {n : Nat} {lk : Bool} {st : Store} {P : PV → Store → Prop} (hd : st[n]? = some (.dic lk (encP ps))) (p : ∀ st', Fr [] st st' → P (.int (turnP ps : Nat)) st') : W (F_raw_turn [.ref n] st) P := by
  refine W_run rfl ?_
  unfold b_raw_turn
  repeat walk_at "d"
  refine w_forD (fun j e s => Fr [] (st.set n (.dic true (encP ps))) s ∧ ∃ o q, e = [some (.ref n), some (.int (((keys ps).take j).foldl (turnF ps) 1 : Nat)), o, q]) rfl hd ⟨Fr.refl, none, none, rfl⟩ (fun j e s h => h.1.lockD hd) ?_ ?_
  · rintro j k v e s hk ⟨fr, o, q, rfl⟩
    obtain ⟨x, hx, rfl, hj⟩ := enc_get hk
    refine ⟨_, rfl, ?_⟩
    repeat walk_at "d"
    refine raw_way_ok G h8 (fr.lockD hd) hx fun st' f => ?_
    repeat walk_at "d"
    refine W_ixT atI_1 ?_
    repeat walk_at "d"
    have et : ((keys ps).take (j + 1)).foldl (turnF ps) 1 = turnF ps (((keys ps).take j).foldl (turnF ps) 1) x := by
      rw [List.take_add_one, hj, List.foldl_append]
      rfl
    have el : ((encR (wayP ps x).2).length) = (wayP ps x).2.length := by simp [encR]
    have hr := (ring_len G hx).2
    refine i_if (fun t => ?_) fun t => ?_
    · rw [el] at t
      have h0 : 0 < (wayP ps x).2.length := by simpa using t
      repeat walk_at "d"
      rw [el]
      refine lcm_ok (by omega) h0 ?_
      repeat walk_at "d"
      refine ⟨fr.trans f, some (kP (.inr x)), some (.tup (encR (wayP ps x).2)), ?_⟩
      rw [et]
      unfold turnF
      rw [if_pos h0]
      rfl
    · rw [el] at t
      have h0 : ¬ 0 < (wayP ps x).2.length := by simpa using t
      repeat walk_at "d"
      refine ⟨fr.trans f, some (kP (.inr x)), some (.tup (encR (wayP ps x).2)), ?_⟩
      rw [et]
      unfold turnF
      rw [if_neg h0]
      rfl
  · rintro e s ⟨fr, o, q, rfl⟩
    repeat walk_at "d"
    have e1 : (keys ps).take (encP ps).length = keys ps := List.take_of_length_le (by rw [enc_len]; simp)
    rw [e1]
    exact p _ (fr.unlock hd)
theorem turn_ok {ps : Ps} (G : Gd ps) (h8 : ps.length ≤ 8) {n : Nat} {lk : Bool} {st : Store} {P : PV → Store → Prop} (hd : st[n]? = some (.dic lk (encP ps))) (p : ∀ st', Fr [] st st' → P (.int (turnP ps : Nat)) st') : W (F_turn [.ref n] st) P := by
  refine W_run rfl ?_
  unfold b_turn
  repeat walk_at "d"
  refine check_push_ok G h8 hd ?_
  repeat walk_at "d"
  refine raw_turn_ok G h8 hd fun st' f => ?_
  repeat walk_at "d"
  exact p st' f
end Pg

/-! k26: a push done. -/
namespace Den
open PySem L2
theorem Fr.unlock2 {ps : List Nat} {n : Nat} {st s : Store} {lk : Bool} {kvs : List (Key × PV)} (f : Fr ps (st.set n (.dic true kvs)) s) (hd : st[n]? = some (.dic lk kvs)) : Fr ps st (s.set n (.dic lk kvs)) := by
  have hn := (List.getElem?_eq_some_iff.mp hd).1
  have hl := f.le
  rw [List.length_set] at hl
  refine ⟨by simpa using hl, fun i hi hp => ?_⟩
  by_cases e : n = i
  · subst e
    rw [List.getElem?_set_self (by omega), hd]
  · rw [List.getElem?_set_ne e, f.eq i (by simpa using hi) hp, List.getElem?_set_ne e]
end Den
namespace Pg
open PySem L2 Den
local macro_rules | `(tactic| walk_at "d") => `(tactic| first
  | ((with_reducible refine' i_loc ?h ?_); case h => exact rfl)
  | with_reducible refine w_seq.mpr ?_ | with_reducible refine w_set.mpr ?_ | with_reducible refine w_ex.mpr ?_ | with_reducible refine w_ret.mpr ?_ | with_reducible refine w_site.mpr ?_ | with_reducible refine w_asgn.mpr ?_ | with_reducible refine w_asgs.mpr ?_ | with_reducible refine w_asgT.mpr ?_
  | with_reducible refine w_skip.mpr ?_ | with_reducible refine sk_nx ?_ | with_reducible refine sk_ret ?_ | with_reducible refine sk_brk ?_ | with_reducible refine sk_cont ?_ | with_reducible refine rk_ret ?_ | with_reducible refine rk_nx ?_ | with_reducible refine tk_tup ?_
  | with_reducible refine bk_bl ?_ | with_reducible refine w_tnm.mpr ?_ | with_reducible refine w_tsub.mpr ?_ | with_reducible refine w_tnil.mpr ?_ | with_reducible refine wB_W.mpr ?_ | with_reducible refine w_con.mpr ?_ | with_reducible refine w_app.mpr ?_ | with_reducible refine w_cons.mpr ?_
  | with_reducible refine w_nil.mpr ?_ | with_reducible refine w_and.mpr ?_ | with_reducible refine w_or.mpr ?_ | with_reducible refine w_ite.mpr ?_ | with_reducible refine w_chn.mpr ?_ | with_reducible refine w_mth.mpr ?_ | with_reducible refine w_ofl.mpr ?_ | with_reducible refine w_ixl.mpr ?_
  | with_reducible refine w_dsp.mpr ?_ | with_reducible refine w_lapp.mpr ?_ | with_reducible refine w_ival.mpr ?_ | with_reducible refine w_irng.mpr ?_ | with_reducible refine w_ienu.mpr ?_ | with_reducible refine w_iofl.mpr ?_ | with_reducible refine i_T ?_ | with_reducible refine i_F ?_
  | with_reducible refine W_add ?_ | with_reducible refine W_sub ?_ | with_reducible refine W_addI ?_ | with_reducible refine W_subI ?_ | with_reducible refine W_neg ?_ | with_reducible refine W_not ?_ | with_reducible refine W_int ?_ | with_reducible refine W_abs ?_
  | with_reducible refine W_lt ?_ | with_reducible refine W_le ?_ | with_reducible refine W_gt ?_ | with_reducible refine W_ge ?_ | with_reducible refine W_eqI ?_ | with_reducible refine W_neI ?_ | with_reducible refine W_isN ?_ | with_reducible refine W_notN ?_
  | with_reducible refine W_tup ?_ | with_reducible refine W_gLst ?_ | with_reducible refine W_gTup ?_ | with_reducible refine W_gLen ?_ | with_reducible refine W_dic0 ?_ | with_reducible refine W_lenT ?_ | with_reducible refine W_tupT ?_ | with_reducible refine W_liT ?_
  | with_reducible refine W_slHT ?_ | with_reducible refine W_slLT ?_ | with_reducible refine W_slHS ?_ | with_reducible refine Wo_srcT ?_
  | ((with_reducible refine' W_mul ?h ?_); case h => first | exact .inr (.inl (by decide)) | exact .inl (by decide) | exact .inl (by omega))
  | ((with_reducible refine' W_div ?h ?_); case h => decide)
  | ((with_reducible refine' W_mod ?h ?_); case h => decide)
  | ((with_reducible refine' W_pow ?h ?_); case h => decide)
  | ((with_reducible refine' W_ixL ?h ?k ?_); (case h => assumption); (case k => first | exact atI_0 | exact atI_1 | exact atI_2 | exact atI_3 | assumption))
  | ((with_reducible refine' W_lenL ?h ?_); case h => assumption))

def encN (ks : List Str) (v : Str → Int) : List (Key × PV) := ks.map fun x => (.inr x, .int (v x))
theorem getP_encN {x : Str} {v : Str → Int} : ∀ {ks : List Str}, getP (.inr x) (encN ks v) = if x ∈ ks then some (.int (v x)) else none
  | [] => rfl
  | a :: ks => by
    have ih := getP_encN (x := x) (v := v) (ks := ks)
    unfold getP encN at ih ⊢
    simp only [List.map_cons, List.find?_cons]
    by_cases h : a = x
    · subst h; simp
    · have h1 : decide ((Sum.inr a : Key) = Sum.inr x) = false := by simpa using h
      rw [h1]
      simp only
      rw [ih]
      by_cases m : x ∈ ks
      · rw [if_pos m, if_pos (List.mem_cons_of_mem _ m)]
      · rw [if_neg m, if_neg (by simp [m, Ne.symm h])]
theorem encN_len {ks : List Str} {v : Str → Int} : (encN ks v).length = ks.length := by unfold encN; simp
theorem W_atN {ks : List Str} {v : Str → Int} {n : Nat} {x : Str} {lk : Bool} {st : Store} {P : PV → Store → Prop} (hd : st[n]? = some (.dic lk (encN ks v))) (hx : x ∈ ks) (p : P (.int (v x)) st) : W (fIx [.ref n, .str x] st) P :=
  W_ixD (k := .inr x) (v := .int (v x)) hd rfl (by rw [getP_encN, if_pos hx]) p
def stp (ps : Ps) (v : Str → Int) (x : Str) : Int := more ps x + (match nxt ps x with | none => 0 | some y => v y)
theorem putN {ks : List Str} {v : Str → Int} {x : Str} (h : x ∉ ks) {i : Int} (hi : i = v x) : putP (.inr x) (.int i) (encN ks v) = encN (ks ++ [x]) v := by
  rw [putP_new (by rw [getP_encN, if_neg h]), hi]
  unfold encN
  rw [List.map_append]
  rfl
end Pg

/-! k26: the mathematics. -/
namespace Pg
open PySem L2 Den
def itr (ps : Ps) (v : Str → Int) : Nat → Str → Int
  | 0 => v
  | k + 1 => stp ps (itr ps v k)
def accO (ps : Ps) : Nat → Option Str → Int
  | _, none => 0
  | 0, some _ => 0
  | k + 1, some y => more ps y + accO ps k (nxt ps y)
def endO (ps : Ps) (v : Str → Int) : Nat → Option Str → Int
  | _, none => 0
  | 0, some y => v y
  | k + 1, some y => endO ps v k (nxt ps y)
theorem accO_none {ps : Ps} {k : Nat} : accO ps k none = 0 := by cases k <;> rfl
theorem endO_none {ps : Ps} {v : Str → Int} {k : Nat} : endO ps v k none = 0 := by cases k <;> rfl
theorem itr_eq {ps : Ps} {v : Str → Int} : ∀ (k : Nat) (x : Str), itr ps v k x = accO ps k (some x) + endO ps v k (some x)
  | 0, x => by simp [itr, accO, endO]
  | k + 1, x => by
    show stp ps (itr ps v k) x = _
    unfold stp
    simp only [accO, endO]
    cases h : nxt ps x with
    | none => simp [accO_none, endO_none]
    | some y =>
      simp only
      rw [itr_eq k y]
      omega
def seg (ps : Ps) : Option Str → List Str → Option Str → Prop
  | a, [], b => a = b
  | a, y :: l, b => a = some y ∧ seg ps (nxt ps y) l b
theorem seg_app {ps : Ps} : ∀ {l : List Str} {a : Option Str} {h : Str}, seg ps a l (some h) → seg ps a (l ++ [h]) (nxt ps h)
  | [], a, h, e => ⟨e, rfl⟩
  | y :: l, a, h, ⟨e, s⟩ => ⟨e, seg_app s⟩
theorem seg_split {ps : Ps} : ∀ {l m : List Str} {a b : Option Str} {h : Str}, seg ps a (l ++ h :: m) b → seg ps a l (some h) ∧ seg ps (some h) (h :: m) b
  | [], m, a, b, h, ⟨e, s⟩ => ⟨e, rfl, s⟩
  | y :: l, m, a, b, h, ⟨e, s⟩ => by
    obtain ⟨s1, s2⟩ := seg_split s
    exact ⟨⟨e, s1⟩, s2⟩
theorem seg_acc {ps : Ps} {k : Nat} : ∀ {l : List Str} {a b : Option Str}, seg ps a l b → accO ps (l.length + k) a = (l.map (more ps)).sum + accO ps k b
  | [], a, b, e => by
    have : a = b := e
    subst this
    simp
  | y :: l, a, b, ⟨e, s⟩ => by
    subst e
    have ih := seg_acc (k := k) s
    simp only [List.length_cons, List.map_cons, List.sum_cons]
    rw [show l.length + 1 + k = (l.length + k) + 1 by omega]
    show more ps y + accO ps (l.length + k) (nxt ps y) = _
    rw [ih]
    omega
theorem seg_end {ps : Ps} {v : Str → Int} {k : Nat} : ∀ {l : List Str} {a b : Option Str}, seg ps a l b → endO ps v (l.length + k) a = endO ps v k b
  | [], a, b, e => by
    have : a = b := e
    subst this
    simp
  | y :: l, a, b, ⟨e, s⟩ => by
    subst e
    have ih := seg_end (v := v) (k := k) s
    simp only [List.length_cons]
    rw [show l.length + 1 + k = (l.length + k) + 1 by omega]
    exact ih
theorem ring_acc {ps : Ps} {ring : List Str} {h : Option Str} (s : seg ps h ring h) (k : Nat) : ∀ n : Nat, accO ps (n * ring.length + k) h = (n : Int) * (ring.map (more ps)).sum + accO ps k h
  | 0 => by simp
  | n + 1 => by
    have ih := ring_acc s k n
    rw [show (n + 1) * ring.length + k = ring.length + (n * ring.length + k) by rw [Nat.add_mul, Nat.one_mul]; omega, seg_acc s, ih]
    rw [Int.natCast_add, Int.add_mul]
    simp
    omega
theorem ring_end {ps : Ps} {v : Str → Int} {ring : List Str} {h : Option Str} (s : seg ps h ring h) (k : Nat) : ∀ n : Nat, endO ps v (n * ring.length + k) h = endO ps v k h
  | 0 => by simp
  | n + 1 => by
    have ih := ring_end (v := v) s k n
    rw [show (n + 1) * ring.length + k = ring.length + (n * ring.length + k) by rw [Nat.add_mul, Nat.one_mul]; omega, seg_end s, ih]
theorem wlk_end {ps : Ps} (G : Gd ps) {x : Str} : ∀ {m : Nat} {row : List Str} {here : Option Str}, Wk ps x m row here → seg ps (some x) row here → seg ps (some x) (wend ps x).1 (wend ps x).2 ∧ ((wend ps x).2 = none ∨ ∃ h, (wend ps x).2 = some h ∧ h ∈ (wend ps x).1)
  | m, row, none, w, s => by
    rw [← w.eq, wlk_none]
    exact ⟨s, .inl rfl⟩
  | m, row, some h, w, s => by
    by_cases hm : h ∈ row
    · rw [← w.eq, wlk_in hm]
      exact ⟨s, .inr ⟨h, rfl, hm⟩⟩
    · have : ∃ m', m' < m ∧ Wk ps x m' (row ++ [h]) (nxt ps h) := w.step G hm
      obtain ⟨m', lt, w'⟩ := this
      exact wlk_end G w' (seg_app s)
  termination_by m => m
theorem way_seg {ps : Ps} (G : Gd ps) {x : Str} (hx : x ∈ keys ps) : ((wayP ps x).2 = [] ∧ seg ps (some x) (wayP ps x).1 none) ∨ ∃ h, seg ps (some x) (wayP ps x).1 (some h) ∧ seg ps (some h) (wayP ps x).2 (some h) ∧ (wayP ps x).2 ≠ [] := by
  obtain ⟨s, e⟩ := wlk_end G (Wk.start hx) (show seg ps (some x) [] (some x) from rfl)
  unfold wayP
  rcases e with e | ⟨h, e, hm⟩
  · rw [e] at s ⊢
    exact .inl ⟨rfl, s⟩
  · rw [e] at s ⊢
    refine .inr ⟨h, ?_⟩
    have hi : (wend ps x).1.idxOf h < (wend ps x).1.length := List.idxOf_lt_length_iff.mpr hm
    have ed : (wend ps x).1.drop ((wend ps x).1.idxOf h) = h :: (wend ps x).1.drop ((wend ps x).1.idxOf h + 1) := by
      rw [List.drop_eq_getElem_cons hi]
      congr 1
      exact List.getElem_idxOf hi
    have es : (wend ps x).1 = (wend ps x).1.take ((wend ps x).1.idxOf h) ++ h :: (wend ps x).1.drop ((wend ps x).1.idxOf h + 1) := by
      rw [← ed, List.take_append_drop]
    rw [es] at s
    obtain ⟨s1, s2⟩ := seg_split s
    simp only
    rw [ed]
    exact ⟨s1, s2, by simp⟩
/-- behind its lead a name's number grows by its ring's gain -/
theorem grown {ps : Ps} (G : Gd ps) {v : Str → Int} {x : Str} (hx : x ∈ keys ps) {t R : Nat} (ht : (wayP ps x).1.length ≤ t) (hR : (wayP ps x).2.length ∣ R ∨ (wayP ps x).2 = []) :
    itr ps v (t + R) x - itr ps v t x = if (wayP ps x).2.length = 0 then 0 else gainP ps x * (R : Int) / ((wayP ps x).2.length : Int) := by
  rw [itr_eq, itr_eq]
  obtain ⟨d, rfl⟩ : ∃ d, t = (wayP ps x).1.length + d := ⟨t - (wayP ps x).1.length, by omega⟩
  rcases way_seg G hx with ⟨e, s⟩ | ⟨h, s, r, ne⟩
  · rw [e, List.length_nil, if_pos rfl, Nat.add_assoc, seg_acc s, seg_acc s, seg_end s, seg_end s]
    simp [accO_none, endO_none]
  · have h0 : (wayP ps x).2.length ≠ 0 := fun z => ne (List.eq_nil_of_length_eq_zero z)
    rw [if_neg h0]
    have hd : (wayP ps x).2.length ∣ R := hR.resolve_right ne
    obtain ⟨n, rfl⟩ := hd
    rw [Nat.add_assoc, seg_acc s, seg_acc s, seg_end s, seg_end s]
    rw [show d + (wayP ps x).2.length * n = n * (wayP ps x).2.length + d by rw [Nat.mul_comm]; omega, ring_acc r, ring_end r]
    have e1 : gainP ps x * (((wayP ps x).2.length * n : Nat) : Int) / ((wayP ps x).2.length : Int) = gainP ps x * (n : Int) := by
      rw [Int.natCast_mul, ← Int.mul_assoc, Int.mul_right_comm]
      exact Int.mul_ediv_cancel _ (by omega)
    rw [e1]
    unfold gainP
    rw [Int.mul_comm (n : Int)]
    omega
/-! ### the turn -/
theorem foldl_turn {ps : Ps} : ∀ (l : List Str) (a : Nat), (∀ x ∈ l, 0 < (wayP ps x).2.length → (wayP ps x).2.length ∣ l.foldl (turnF ps) a) ∧ a ∣ l.foldl (turnF ps) a ∧ ∀ m, a ∣ m → (∀ x ∈ l, 0 < (wayP ps x).2.length → (wayP ps x).2.length ∣ m) → l.foldl (turnF ps) a ∣ m
  | [], a => ⟨by simp, Nat.dvd_refl _, fun m h _ => h⟩
  | y :: l, a => by
    obtain ⟨h1, h2, h3⟩ := foldl_turn l (turnF ps a y)
    simp only [List.foldl_cons]
    have ha : a ∣ turnF ps a y := by
      unfold turnF
      split
      · exact Nat.dvd_lcm_left _ _
      · exact Nat.dvd_refl _
    refine ⟨fun x hx hp => ?_, Nat.dvd_trans ha h2, fun m hm hall => h3 m ?_ fun x hx => hall x (List.mem_cons_of_mem _ hx)⟩
    · rcases List.mem_cons.mp hx with rfl | hx
      · refine Nat.dvd_trans ?_ h2
        unfold turnF
        rw [if_pos hp]
        exact Nat.dvd_lcm_right _ _
      · exact h1 x hx hp
    · unfold turnF
      split
      · rename_i hp
        exact Nat.lcm_dvd hm (hall y List.mem_cons_self hp)
      · exact hm
theorem turn_dvd {ps : Ps} {x : Str} (hx : x ∈ keys ps) (h : 0 < (wayP ps x).2.length) : (wayP ps x).2.length ∣ turnP ps := (foldl_turn (keys ps) 1).1 x hx h
theorem turn_min {ps : Ps} {m : Nat} (h : ∀ x ∈ keys ps, 0 < (wayP ps x).2.length → (wayP ps x).2.length ∣ m) : turnP ps ∣ m := (foldl_turn (keys ps) 1).2.2 m (Nat.one_dvd _) h
theorem d840 : ∀ c : Nat, c < 9 → 0 < c → c ∣ 840 := by decide
theorem turn_le {ps : Ps} (G : Gd ps) (h8 : ps.length ≤ 8) : turnP ps ∣ 840 := turn_min fun x hx h => d840 _ (by have := (ring_len G hx).2; omega) h
theorem turn_pos {ps : Ps} (G : Gd ps) (h8 : ps.length ≤ 8) : 0 < turnP ps ∧ turnP ps ≤ 840 := ⟨Nat.pos_of_dvd_of_pos (turn_le G h8) (by decide), Nat.le_of_dvd (by decide) (turn_le G h8)⟩
/-- the tail is no less than any lead -/
theorem maxI_ge : ∀ {l : List Int} {i : Int}, i ∈ l → i ≤ maxI l := fun h => maxI_le h
theorem tail_ge {ps : Ps} {x : Str} (hx : x ∈ keys ps) : ((wayP ps x).1.length : Int) ≤ tailP ps := maxI_ge (List.mem_map.mpr ⟨x, hx, rfl⟩)
end Pg

namespace Pg
open PySem L2 Den
theorem strOk8 : ∀ x ∈ names8, PySem.PyData.strOk x = true := by decide +kernel
theorem okD_encR {row : List Str} (h : ∀ x ∈ row, x ∈ names8) (n : Nat) : (encR row).all (okD n) = true := by
  rw [List.all_eq_true]
  intro v hv
  obtain ⟨x, hx, rfl⟩ := List.mem_map.mp hv
  have := strOk8 x (h x hx)
  cases n <;> exact this
mutual
theorem peq_refl : ∀ (n : Nat) (v : PV), okD n v = true → peq v v = true
  | _, .non, _ => rfl
  | _, .bl b, _ => by simp [peq]
  | _, .int i, _ => by simp [peq]
  | _, .str x, _ => by simp [peq]
  | 0, .tup xs, h => by simp [okD] at h
  | n + 1, .tup xs, h => by
    simp only [okD] at h
    simp only [peq]
    exact peqs_refl n xs h
  | n, .ref m, h => by cases n <;> simp [okD] at h
  | n, .ty m, h => by cases n <;> simp [okD] at h
  | n, .cls m, h => by cases n <;> simp [okD] at h
  | n, .sls m, h => by cases n <;> simp [okD] at h
theorem peqs_refl : ∀ (n : Nat) (xs : List PV), xs.all (okD n) = true → peqs xs xs = true
  | _, [], _ => rfl
  | n, x :: xs, h => by
    simp only [List.all_cons, Bool.and_eq_true] at h
    simp only [peqs, peq_refl n x h.1, peqs_refl n xs h.2, Bool.and_self]
end
theorem W_neSame {v : PV} {st : Store} {P : PV → Store → Prop} (h : okD 60 v = true) (q : P (.bl false) st) : W (fNe [v, v] st) P := by
  refine W_of ?_ q
  have e : eqB v v st = some true := by
    cases v <;> first | (exfalso; simp [okD] at h; done) | (simp only [eqB, eqB0, h, Bool.and_self, if_true, peq_refl 60 _ h])
  simp only [fNe, e, Option.map_some]
  rfl
theorem okD_encW {ps : Ps} (G : Gd ps) {x : Str} (hx : x ∈ keys ps) : okD 60 (encW (wayP ps x)) = true := by
  have h := way_sub hx G
  have h1 := okD_encR (row := (wayP ps x).1) (fun y hy => G.nm y (h.1 y hy)) 58
  have h2 := okD_encR (row := (wayP ps x).2) (fun y hy => G.nm y (h.2 y hy)) 58
  show (okD 59 (.tup (encR (wayP ps x).1)) && (okD 59 (.tup (encR (wayP ps x).2)) && true)) = true
  show ((encR (wayP ps x).1).all (okD 58) && ((encR (wayP ps x).2).all (okD 58) && true)) = true
  rw [h1, h2]
  rfl

theorem W_eqSame {v : PV} {st : Store} {P : PV → Store → Prop} (h : okD 60 v = true) (q : P (.bl true) st) : W (fEq [v, v] st) P := by
  refine W_of ?_ q
  have e : eqB v v st = some true := by
    cases v <;> first | (exfalso; simp [okD] at h; done) | (simp only [eqB, eqB0, h, Bool.and_self, if_true, peq_refl 60 _ h])
  simp only [fEq, e, Option.map_some]
theorem getP_self {k : Key} {v : PV} : ∀ {kvs : List (Key × PV)}, (kvs.map (·.1)).Nodup → (k, v) ∈ kvs → getP k kvs = some v
  | [], _, h => by simp at h
  | (k', v') :: kvs, hn, h => by
    unfold getP
    rw [List.find?_cons]
    rw [List.map_cons, List.nodup_cons] at hn
    rcases List.mem_cons.mp h with e | h
    · cases e; simp
    · have ne : k' ≠ k := fun e => hn.1 (List.mem_map.mpr ⟨(k, v), h, e.symm⟩)
      rw [decide_eq_false ne]
      exact getP_self hn.2 h
theorem dEqB_self {a : List (Key × PV)} (h : (a.all fun p => okD 60 p.2) = true) (hn : (a.map (·.1)).Nodup) : dEqB a a = some true := by
  unfold dEqB
  rw [h]
  simp only [Bool.and_self, if_true, beq_self_eq_true, Bool.true_and, Option.some.injEq]
  rw [List.all_eq_true]
  intro p hp
  rw [getP_self (v := p.2) hn hp]
  exact peq_refl 60 _ (List.all_eq_true.mp h p hp)
theorem W_eqD {st : Store} {m n : Nat} {l1 l2 : Bool} {a b : List (Key × PV)} {r : Bool} {P : PV → Store → Prop} (hm : st[m]? = some (.dic l1 a)) (hn : st[n]? = some (.dic l2 b)) (e : dEqB a b = some r) (q : P (.bl r) st) : W (fEq [.ref m, .ref n] st) P := W_of (by simp [fEq, eqB, dicAt, hm, hn, e]) q
theorem W_neD {st : Store} {m n : Nat} {l1 l2 : Bool} {a b : List (Key × PV)} {r : Bool} {P : PV → Store → Prop} (hm : st[m]? = some (.dic l1 a)) (hn : st[n]? = some (.dic l2 b)) (e : dEqB a b = some r) (q : P (.bl (!r)) st) : W (fNe [.ref m, .ref n] st) P := W_of (by simp [fNe, eqB, dicAt, hm, hn, e]) q
theorem enc_okD {ps : Ps} (G : Gd ps) : ((encP ps).all fun p => okD 60 p.2) = true := by
  rw [List.all_eq_true]
  intro p hp
  obtain ⟨q, hq, rfl⟩ := List.mem_map.mp hp
  show okD 60 (.tup [encS q.2.1, .int q.2.2]) = true
  cases h : q.2.1 with
  | none => rfl
  | some s =>
    have := strOk8 s (G.nm s (G.src q hq s h))
    simp [okD, encS, this]
theorem enc_nd {ps : Ps} (h : (keys ps).Nodup) : ((encP ps).map (·.1)).Nodup := by
  unfold encP
  rw [List.map_map]
  have : ((fun q : Key × PV => q.1) ∘ fun q : Str × Option Str × Int => ((Sum.inr q.1 : Key), encV q.2)) = (Sum.inr : Str → Key) ∘ fun q => q.1 := rfl
  rw [this, ← List.map_map]
  exact (List.pairwise_map (f := (Sum.inr : Str → Key))).mpr (h.imp fun hne e => hne (Sum.inr.inj e))
theorem dEq_enc {ps : Ps} (G : Gd ps) : dEqB (encP ps) (encP ps) = some true := dEqB_self (enc_okD G) (enc_nd G.nd)
theorem encN_nd {ks : List Str} {v : Str → Int} (h : ks.Nodup) : ((encN ks v).map (·.1)).Nodup := by
  unfold encN
  rw [List.map_map]
  exact (List.pairwise_map).mpr (h.imp fun hne e => hne (Sum.inr.inj e))
theorem dEq_encN {ks : List Str} {v : Str → Int} (h : ks.Nodup) : dEqB (encN ks v) (encN ks v) = some true := dEqB_self (by
  rw [List.all_eq_true]
  intro p hp
  obtain ⟨q, hq, rfl⟩ := List.mem_map.mp hp
  rfl) (encN_nd h)
end Pg

/-! PuR: one push after another, many times. -/
namespace Pg
open PySem L2 Den
local macro_rules | `(tactic| walk_at "side") => `(tactic| first | assumption | exact List.not_mem_nil | (exact Ne.symm (by assumption)) | (refine nm_one ?_; walk_at "side") | (refine nm_two ?_ ?_ <;> walk_at "side") | (refine nm_cons ?_ ?_ <;> walk_at "side") | omega)
local macro_rules | `(tactic| walk_at "look") => `(tactic| first | assumption | exact New.get (by assumption) | (exact Fr.get (by assumption) (by walk_at "look") (by walk_at "side")) | (exact Fr.get (New.fr (by assumption)) (by walk_at "look") (by walk_at "side")))
local macro_rules | `(tactic| walk_at "d") => `(tactic| first
  | ((with_reducible refine' i_loc ?h ?_); case h => exact rfl)
  | with_reducible refine w_seq.mpr ?_ | with_reducible refine w_set.mpr ?_ | with_reducible refine w_ex.mpr ?_ | with_reducible refine w_ret.mpr ?_ | with_reducible refine w_site.mpr ?_ | with_reducible refine w_asgn.mpr ?_
  | with_reducible refine w_asgs.mpr ?_ | with_reducible refine w_asgT.mpr ?_ | with_reducible refine w_skip.mpr ?_ | with_reducible refine sk_nx ?_ | with_reducible refine sk_ret ?_ | with_reducible refine sk_brk ?_
  | with_reducible refine sk_cont ?_ | with_reducible refine rk_ret ?_ | with_reducible refine rk_nx ?_ | with_reducible refine tk_tup ?_ | with_reducible refine lp_nx ?_ | with_reducible refine lp_cont ?_
  | with_reducible refine lp_brk ?_ | with_reducible refine lp_ret ?_ | with_reducible refine bk_bl ?_ | with_reducible refine w_tnm.mpr ?_ | with_reducible refine w_tsub.mpr ?_ | with_reducible refine w_tnil.mpr ?_
  | with_reducible refine wB_W.mpr ?_ | with_reducible refine w_con.mpr ?_ | with_reducible refine w_app.mpr ?_ | with_reducible refine w_cons.mpr ?_ | with_reducible refine w_nil.mpr ?_ | with_reducible refine w_and.mpr ?_
  | with_reducible refine w_or.mpr ?_ | with_reducible refine w_ite.mpr ?_ | with_reducible refine w_chn.mpr ?_ | with_reducible refine w_mth.mpr ?_ | with_reducible refine w_ofl.mpr ?_ | with_reducible refine w_ixl.mpr ?_
  | with_reducible refine w_dsp.mpr ?_ | with_reducible refine w_map.mpr ?_ | with_reducible refine w_lapp.mpr ?_ | with_reducible refine w_ival.mpr ?_ | with_reducible refine w_irng.mpr ?_ | with_reducible refine w_ienu.mpr ?_
  | with_reducible refine w_iofl.mpr ?_ | with_reducible refine w_izip.mpr ?_ | with_reducible refine w_izip3.mpr ?_ | with_reducible refine zk_tt ?_ | with_reducible refine z3_t ?_ | with_reducible refine i_T ?_
  | with_reducible refine i_F ?_ | with_reducible refine W_add ?_ | with_reducible refine W_sub ?_ | with_reducible refine W_addI ?_ | with_reducible refine W_subI ?_ | with_reducible refine W_neg ?_
  | with_reducible refine W_not ?_ | with_reducible refine W_int ?_ | with_reducible refine W_abs ?_ | with_reducible refine W_lt ?_ | with_reducible refine W_le ?_ | with_reducible refine W_gt ?_
  | with_reducible refine W_ge ?_ | with_reducible refine W_eqI ?_ | with_reducible refine W_neI ?_ | with_reducible refine W_isN ?_ | with_reducible refine W_notN ?_ | with_reducible refine W_tup ?_
  | with_reducible refine W_gTup ?_ | with_reducible refine W_gLen ?_ | with_reducible refine W_lenT ?_ | with_reducible refine W_tupT ?_ | with_reducible refine W_liT ?_ | with_reducible refine W_slHT ?_
  | with_reducible refine W_slLT ?_ | with_reducible refine Wo_srcT ?_ | with_reducible refine W_isiT ?_ | with_reducible refine W_isiI ?_ | with_reducible refine W_isiB ?_ | ((with_reducible refine' W_mul ?h ?_); case h => first | assumption | exact .inr (.inl (by decide)) | exact .inl (by decide) | exact .inl (by omega) | exact .inr (.inl (by omega)))
  | ((with_reducible refine' W_div ?h ?_); case h => first | decide | assumption)
  | ((with_reducible refine' W_mod ?h ?_); case h => first | decide | assumption | omega)
  | ((with_reducible refine' W_pow ?h ?_); case h => decide)
  | ((with_reducible refine' W_ixT ?k ?_); (case k => first | exact atI_0 | exact atI_1 | exact atI_2 | exact atI_3 | assumption))
  | ((with_reducible refine' W_ixL ?h ?k ?_); (case h => walk_at "look"); (case k => first | exact atI_0 | exact atI_1 | exact atI_2 | exact atI_3 | assumption))
  | ((with_reducible refine' W_lenL ?h ?_); case h => walk_at "look")
  | ((with_reducible refine' W_lenD ?h ?_); case h => walk_at "look")
  | ((with_reducible refine' W_tupL ?h ?_); case h => walk_at "look")
  | ((with_reducible refine' W_tupDi ?h ?_); case h => walk_at "look")
  | ((with_reducible refine' W_liL ?h ?_); case h => walk_at "look")
  | ((with_reducible refine' W_liD ?h ?_); case h => walk_at "look")
  | ((with_reducible refine' Wo_srcL ?h ?_); case h => walk_at "look")
  | ((with_reducible refine' W_isiD ?h ?_); case h => walk_at "look")
  | ((with_reducible refine' W_isiL ?h ?_); case h => walk_at "look")
  | ((with_reducible refine' zk_tl ?h ?_); case h => walk_at "look")
  | ((with_reducible refine' zk_lt ?h ?_); case h => walk_at "look")
  | ((with_reducible refine' i_B ?h ?_); case h => first | rfl | assumption | (simp; done))
  | ((with_reducible refine' i_N ?h ?_); case h => first | rfl | assumption | (simp; done))
  | ((with_reducible refine' i_ok ?h ?_); case h => exact isLst_at (by walk_at "look"))
  | ((with_reducible refine' w_lc20 ?h ?_); case h => first | exact rfl | exact lk_list rfl (by walk_at "look"))
  | ((with_reducible refine' w_lc0 ?h ?_); case h => first | exact rfl | exact lk_list rfl (by walk_at "look")))
local macro_rules | `(tactic| walk_at "f") => `(tactic| ((with_reducible refine' w_for0 ?h ?_); case h => first | exact rfl | exact lk_list rfl (by walk_at "look")))

/-- the push of ps, then qs -/
def aft (ps qs : Ps) : Ps := qs.map fun q => (q.1, match q.2.1 with | none => (none, q.2.2) | some s => (nxt ps s, more ps s + q.2.2))
theorem keys_aft {ps qs : Ps} : keys (aft ps qs) = keys qs := by
  unfold keys aft
  rw [List.map_map]
  rfl
theorem aft_snoc {ps qs : Ps} {q : Str × Option Str × Int} : aft ps (qs ++ [q]) = aft ps qs ++ aft ps [q] := by
  unfold aft
  rw [List.map_append]
theorem encP_snoc {ps qs : Ps} : encP (ps ++ qs) = encP ps ++ encP qs := by
  unfold encP
  rw [List.map_append]
theorem getP_none {ps : Ps} {x : Str} (h : x ∉ keys ps) : getP (.inr x) (encP ps) = none := by
  rw [getP_enc]
  unfold fnd
  rw [List.find?_eq_none.mpr fun q hq => by
    simp only [decide_eq_true_eq]
    intro e
    exact h (List.mem_map.mpr ⟨q, hq, e⟩)]
  rfl
theorem nd_take {ks : List Str} {j : Nat} {x : Str} (h : ks.Nodup) (e : ks[j]? = some x) : x ∉ ks.take j := by
  intro hm
  rw [← List.take_append_drop j ks, List.nodup_append] at h
  exact h.2.2 x hm x (List.mem_of_getElem? (i := 0) (by rw [List.getElem?_drop]; exact e)) rfl
theorem take_snoc {α : Type} {xs : List α} {j : Nat} {x : α} (h : xs[j]? = some x) : xs.take (j + 1) = xs.take j ++ [x] := by
  rw [List.take_succ, h]
  rfl
theorem enc_at {ps : Ps} {j : Nat} {k : Key} {v : PV} (h : (encP ps)[j]? = some (k, v)) : ∃ q, ps[j]? = some q ∧ k = .inr q.1 ∧ v = encV q.2 := by
  unfold encP at h
  rw [List.getElem?_map] at h
  cases hq : ps[j]? with
  | none => simp [hq] at h
  | some q => rw [hq] at h; cases h; exact ⟨q, rfl, rfl, rfl⟩
theorem keys_at {ps : Ps} {j : Nat} {q : Str × Option Str × Int} (h : ps[j]? = some q) : (keys ps)[j]? = some q.1 := by rw [List.getElem?_map, h]; rfl
theorem at_fnd {ps : Ps} (h : (keys ps).Nodup) {j : Nat} {q : Str × Option Str × Int} (e : ps[j]? = some q) : fnd ps q.1 = some q.2 := by
  obtain ⟨x, y⟩ := q
  obtain ⟨r, hr, hm⟩ := fnd_mem (ps := ps) (x := x) (List.mem_map.mpr ⟨(x, y), List.mem_of_getElem? e, rfl⟩)
  simp only
  rw [hr]
  obtain ⟨i, hi⟩ := List.mem_iff_getElem?.mp hm
  have h1 := keys_at e
  have h2 := keys_at hi
  have : i = j := by
    have l1 := (List.getElem?_eq_some_iff.mp h1)
    have l2 := (List.getElem?_eq_some_iff.mp h2)
    obtain ⟨l1, e1⟩ := l1
    obtain ⟨l2, e2⟩ := l2
    exact (List.getElem_inj h).mp (e2.trans e1.symm)
  subst this
  rw [hi] at e
  cases e
  rfl
theorem raw_after_ok {ps qs : Ps} (hq : (keys qs).Nodup) (hs : ∀ q ∈ qs, ∀ s, q.2.1 = some s → s ∈ keys ps) (h8 : qs.length ≤ 8) {n m : Nat} {lk lm : Bool} {st : Store} {P : PV → Store → Prop} (hn : st[n]? = some (.dic lk (encP ps))) (hm : st[m]? = some (.dic lm (encP qs)))
    (p : ∀ r s', New st r s' (.dic false (encP (aft ps qs))) → P (.ref r) s') : W (F_raw_after [.ref n, .ref m] st) P := by
  refine W_run rfl ?_
  unfold b_raw_after
  repeat walk_at "d"
  refine nDic0 fun r s1 h1 => ?_
  have f1 := h1.fr
  repeat walk_at "d"
  have hm1 : s1[m]? = some (.dic lm (encP qs)) := by walk_at "look"
  have nr := h1.ne hm
  have nr2 := h1.ne hn
  refine for_D (fun j e s => ∃ o3 o4 o5, e = [some (.ref n), some (.ref m), some (.ref r), o3, o4, o5] ∧ s[m]? = some (.dic true (encP qs)) ∧ s[r]? = some (.dic false (encP (aft ps (qs.take j)))) ∧ Fr [m, r] s1 s) rfl hm1 ?_ ?_ ?_ ?_
  · intro s h f
    exact ⟨none, none, none, rfl, h, f.get h1.get (by simp; omega), f.mono (by simp)⟩
  · rintro j e s ⟨o3, o4, o5, rfl, h, _⟩
    exact h
  · rintro j k v e s hk ⟨o3, o4, o5, rfl, hms, hrs, f⟩
    obtain ⟨q, hj, rfl, rfl⟩ := enc_at hk
    have hqm := List.mem_of_getElem? hj
    refine ⟨_, rfl, ?_⟩
    have hns : ∃ lk', s[n]? = some (.dic lk' (encP ps)) := by
      by_cases e : n = m
      · subst e
        have := (Ob.dic.inj (Option.some.inj (hn.symm.trans hm))).2
        rw [this]
        exact ⟨true, hms⟩
      · exact ⟨lk, f.get (f1.get hn (by simp)) (by simp; omega)⟩
    obtain ⟨lk', hns⟩ := hns
    have hf := at_fnd hq hj
    repeat walk_at "d"
    refine W_ixD (k := .inr q.1) (v := encV q.2) hms rfl (by rw [getP_enc, hf]; rfl) ?_
    unfold encV
    repeat walk_at "d"
    have lt : (aft ps (qs.take j)).length < 16000000 := by
      unfold aft
      simp
      omega
    have hnew : getP (.inr q.1) (encP (aft ps (qs.take j))) = none := getP_none (by rw [keys_aft]; unfold keys; rw [List.map_take]; exact nd_take hq (keys_at hj))
    have lst : ∀ {z : PV}, z = encV (match q.2.1 with | none => (none, q.2.2) | some s => (nxt ps s, more ps s + q.2.2)) → encP (aft ps (qs.take j)) ++ [((.inr q.1 : Key), z)] = encP (aft ps (qs.take (j + 1))) := by
      rintro z rfl
      rw [take_snoc hj, aft_snoc, encP_snoc]
      rfl
    cases hs0 : q.2.1 with
    | none =>
      refine i_B (by simp [encS]) ?_
      repeat walk_at "d"
      refine nSetD hrs rfl (by rw [enc_len]; exact lt) fun s2 hr2 f2 => ?_
      rw [putP_new hnew, lst (by rw [hs0]; rfl)] at hr2
      repeat walk_at "d"
      exact ⟨_, _, _, rfl, f2.get hms (by simp; omega), hr2, f.trans (f2.mono (by simp))⟩
    | some y =>
      have hy := hs q hqm y hs0
      refine i_N (by simp [encS]) ?_
      repeat walk_at "d"
      refine W_at hns hy ?_
      repeat walk_at "d"
      refine W_at hns hy ?_
      repeat walk_at "d"
      refine nSetD hrs rfl (by rw [enc_len]; exact lt) fun s2 hr2 f2 => ?_
      rw [putP_new hnew, lst (by rw [hs0]; rfl)] at hr2
      repeat walk_at "d"
      exact ⟨_, _, _, rfl, f2.get hms (by simp; omega), hr2, f.trans (f2.mono (by simp))⟩
  · rintro e s ⟨o3, o4, o5, rfl, hms, hrs, f⟩ s3 h3 f3
    repeat walk_at "d"
    rw [enc_len, List.take_length] at hrs
    have hb := at_lt hm1
    have f4 : Fr (m :: [r]) st s3 := ((f1.mono (by simp)).trans f).trans (f3.mono (by simp))
    have l1 := f.le
    have l2 := f3.le
    have l3 := h1.lt
    exact p r s3 ⟨f3.get hrs (by simp; omega), h1.le, by omega, (f4.back hm h3).new h1.le⟩
end Pg

/-! PuS: a push done many times; pushed; one_more. -/
namespace Pg
open PySem L2 Den
local macro_rules | `(tactic| walk_at "side") => `(tactic| first | assumption | exact List.not_mem_nil | (exact Ne.symm (by assumption)) | (refine nm_one ?_; walk_at "side") | (refine nm_two ?_ ?_ <;> walk_at "side") | (refine nm_cons ?_ ?_ <;> walk_at "side") | omega)
local macro_rules | `(tactic| walk_at "look") => `(tactic| first | assumption | exact New.get (by assumption) | (exact Fr.get (by assumption) (by walk_at "look") (by walk_at "side")) | (exact Fr.get (New.fr (by assumption)) (by walk_at "look") (by walk_at "side")))
local macro_rules | `(tactic| walk_at "d") => `(tactic| first
  | ((with_reducible refine' i_loc ?h ?_); case h => exact rfl)
  | with_reducible refine w_seq.mpr ?_ | with_reducible refine w_set.mpr ?_ | with_reducible refine w_ex.mpr ?_ | with_reducible refine w_ret.mpr ?_ | with_reducible refine w_site.mpr ?_ | with_reducible refine w_asgn.mpr ?_
  | with_reducible refine w_asgs.mpr ?_ | with_reducible refine w_asgT.mpr ?_ | with_reducible refine w_skip.mpr ?_ | with_reducible refine sk_nx ?_ | with_reducible refine sk_ret ?_ | with_reducible refine sk_brk ?_
  | with_reducible refine sk_cont ?_ | with_reducible refine rk_ret ?_ | with_reducible refine rk_nx ?_ | with_reducible refine tk_tup ?_ | with_reducible refine lp_nx ?_ | with_reducible refine lp_cont ?_
  | with_reducible refine lp_brk ?_ | with_reducible refine lp_ret ?_ | with_reducible refine bk_bl ?_ | with_reducible refine w_tnm.mpr ?_ | with_reducible refine w_tsub.mpr ?_ | with_reducible refine w_tnil.mpr ?_
  | with_reducible refine wB_W.mpr ?_ | with_reducible refine w_con.mpr ?_ | with_reducible refine w_app.mpr ?_ | with_reducible refine w_cons.mpr ?_ | with_reducible refine w_nil.mpr ?_ | with_reducible refine w_and.mpr ?_
  | with_reducible refine w_or.mpr ?_ | with_reducible refine w_ite.mpr ?_ | with_reducible refine w_chn.mpr ?_ | with_reducible refine w_mth.mpr ?_ | with_reducible refine w_ofl.mpr ?_ | with_reducible refine w_ixl.mpr ?_
  | with_reducible refine w_dsp.mpr ?_ | with_reducible refine w_map.mpr ?_ | with_reducible refine w_lapp.mpr ?_ | with_reducible refine w_ival.mpr ?_ | with_reducible refine w_irng.mpr ?_ | with_reducible refine w_ienu.mpr ?_
  | with_reducible refine w_iofl.mpr ?_ | with_reducible refine w_izip.mpr ?_ | with_reducible refine w_izip3.mpr ?_ | with_reducible refine zk_tt ?_ | with_reducible refine z3_t ?_ | with_reducible refine i_T ?_
  | with_reducible refine i_F ?_ | with_reducible refine W_add ?_ | with_reducible refine W_sub ?_ | with_reducible refine W_addI ?_ | with_reducible refine W_subI ?_ | with_reducible refine W_neg ?_
  | with_reducible refine W_not ?_ | with_reducible refine W_int ?_ | with_reducible refine W_abs ?_ | with_reducible refine W_lt ?_ | with_reducible refine W_le ?_ | with_reducible refine W_gt ?_
  | with_reducible refine W_ge ?_ | with_reducible refine W_eqI ?_ | with_reducible refine W_neI ?_ | with_reducible refine W_isN ?_ | with_reducible refine W_notN ?_ | with_reducible refine W_tup ?_
  | with_reducible refine W_gTup ?_ | with_reducible refine W_gLen ?_ | with_reducible refine W_lenT ?_ | with_reducible refine W_tupT ?_ | with_reducible refine W_liT ?_ | with_reducible refine W_slHT ?_
  | with_reducible refine W_slLT ?_ | with_reducible refine Wo_srcT ?_ | with_reducible refine W_isiT ?_ | with_reducible refine W_isiI ?_ | with_reducible refine W_isiB ?_ | ((with_reducible refine' W_mul ?h ?_); case h => first | assumption | exact .inr (.inl (by decide)) | exact .inl (by decide) | exact .inl (by omega) | exact .inr (.inl (by omega)))
  | ((with_reducible refine' W_div ?h ?_); case h => first | decide | assumption)
  | ((with_reducible refine' W_mod ?h ?_); case h => first | decide | assumption | omega)
  | ((with_reducible refine' W_pow ?h ?_); case h => decide)
  | ((with_reducible refine' W_ixT ?k ?_); (case k => first | exact atI_0 | exact atI_1 | exact atI_2 | exact atI_3 | assumption))
  | ((with_reducible refine' W_ixL ?h ?k ?_); (case h => walk_at "look"); (case k => first | exact atI_0 | exact atI_1 | exact atI_2 | exact atI_3 | assumption))
  | ((with_reducible refine' W_lenL ?h ?_); case h => walk_at "look")
  | ((with_reducible refine' W_lenD ?h ?_); case h => walk_at "look")
  | ((with_reducible refine' W_tupL ?h ?_); case h => walk_at "look")
  | ((with_reducible refine' W_tupDi ?h ?_); case h => walk_at "look")
  | ((with_reducible refine' W_liL ?h ?_); case h => walk_at "look")
  | ((with_reducible refine' W_liD ?h ?_); case h => walk_at "look")
  | ((with_reducible refine' Wo_srcL ?h ?_); case h => walk_at "look")
  | ((with_reducible refine' W_isiD ?h ?_); case h => walk_at "look")
  | ((with_reducible refine' W_isiL ?h ?_); case h => walk_at "look")
  | ((with_reducible refine' zk_tl ?h ?_); case h => walk_at "look")
  | ((with_reducible refine' zk_lt ?h ?_); case h => walk_at "look")
  | ((with_reducible refine' i_B ?h ?_); case h => first | rfl | assumption | (simp; done))
  | ((with_reducible refine' i_N ?h ?_); case h => first | rfl | assumption | (simp; done))
  | ((with_reducible refine' i_ok ?h ?_); case h => exact isLst_at (by walk_at "look"))
  | ((with_reducible refine' w_lc20 ?h ?_); case h => first | exact rfl | exact lk_list rfl (by walk_at "look"))
  | ((with_reducible refine' w_lc0 ?h ?_); case h => first | exact rfl | exact lk_list rfl (by walk_at "look")))
local macro_rules | `(tactic| walk_at "f") => `(tactic| ((with_reducible refine' w_for0 ?h ?_); case h => first | exact rfl | exact lk_list rfl (by walk_at "look")))

/-- n steps along the sources -/
def gow (ps : Ps) : Nat → Option Str → Option Str
  | 0, o => o
  | _ + 1, none => none
  | n + 1, some x => gow ps n (nxt ps x)
theorem gow_none {ps : Ps} : ∀ n, gow ps n none = none
  | 0 => rfl
  | _ + 1 => rfl
theorem gow_add {ps : Ps} {a : Nat} : ∀ (b : Nat) (o : Option Str), gow ps (a + b) o = gow ps a (gow ps b o)
  | 0, o => rfl
  | b + 1, none => by rw [gow_none, gow_none, gow_none]
  | b + 1, some x => by
    show gow ps (a + b) (nxt ps x) = gow ps a (gow ps b (nxt ps x))
    exact gow_add b _
theorem accO_add {ps : Ps} {a : Nat} : ∀ (b : Nat) (o : Option Str), accO ps (a + b) o = accO ps b o + accO ps a (gow ps b o)
  | 0, o => by
    cases o <;> simp [gow, accO]
  | b + 1, none => by rw [gow_none, accO_none, accO_none, accO_none]; rfl
  | b + 1, some x => by
    show more ps x + accO ps (a + b) (nxt ps x) = more ps x + accO ps b (nxt ps x) + accO ps a (gow ps b (nxt ps x))
    rw [accO_add b]
    omega
theorem gow_mem {ps : Ps} (G : Gd ps) : ∀ (n : Nat) {o : Option Str} {s : Str}, (∀ y, o = some y → y ∈ keys ps) → gow ps n o = some s → s ∈ keys ps
  | 0, o, s, h, e => h s e
  | _ + 1, none, s, _, e => by rw [gow_none] at e; cases e
  | n + 1, some x, s, h, e => gow_mem G n (o := nxt ps x) (fun y hy => nxt_mem G hy) e
theorem accO_nn {ps : Ps} (G : Gd ps) : ∀ (n : Nat) (o : Option Str), 0 ≤ accO ps n o
  | 0, o => by cases o <;> exact Int.le_refl _
  | n + 1, none => by rw [accO_none]; exact Int.le_refl _
  | n + 1, some x => by
    show 0 ≤ more ps x + accO ps n (nxt ps x)
    have := more_nn G x
    have := accO_nn G n (nxt ps x)
    omega
/-- the push done n times -/
def pw (ps : Ps) (n : Nat) : Ps := (keys ps).map fun x => (x, gow ps n (some x), accO ps n (some x))
theorem keys_pw {ps : Ps} {n : Nat} : keys (pw ps n) = keys ps := by
  show List.map (fun q => q.1) (List.map (fun x => (x, gow ps n (some x), accO ps n (some x))) (keys ps)) = keys ps
  generalize keys ps = ks
  rw [List.map_map]
  exact List.map_id' _
theorem len_pw {ps : Ps} {n : Nat} : (pw ps n).length = ps.length := by unfold pw; simp
theorem fnd_map {f : Str → Option Str × Int} {x : Str} : ∀ {ks : List Str}, x ∈ ks → fnd (ks.map fun y => (y, f y)) x = some (f x)
  | [], h => by simp at h
  | a :: ks, h => by
    unfold fnd
    rw [List.map_cons, List.find?_cons]
    by_cases e : a = x
    · subst e; simp
    · rw [decide_eq_false (by exact e)]
      exact fnd_map (by
        rcases List.mem_cons.mp h with z | z
        · exact absurd z.symm e
        · exact z)
theorem fnd_pw {ps : Ps} {n : Nat} {x : Str} (h : x ∈ keys ps) : fnd (pw ps n) x = some (gow ps n (some x), accO ps n (some x)) := fnd_map (f := fun x => (gow ps n (some x), accO ps n (some x))) h
theorem nxt_pw {ps : Ps} {n : Nat} {x : Str} (h : x ∈ keys ps) : nxt (pw ps n) x = gow ps n (some x) := by unfold nxt; rw [fnd_pw h]; rfl
theorem more_pw {ps : Ps} {n : Nat} {x : Str} (h : x ∈ keys ps) : more (pw ps n) x = accO ps n (some x) := by unfold more; rw [fnd_pw h]; rfl
theorem Gd.pw {ps : Ps} (G : Gd ps) (n : Nat) : Gd (pw ps n) := by
  refine ⟨by rw [keys_pw]; exact G.nm, by rw [keys_pw]; exact G.nd, fun q hq s hs => ?_, fun q hq => ?_, fun e => ?_⟩
  · obtain ⟨x, hx, rfl⟩ := List.mem_map.mp hq
    rw [keys_pw]
    exact gow_mem G n (fun y hy => by cases hy; exact hx) hs
  · obtain ⟨x, hx, rfl⟩ := List.mem_map.mp hq
    exact accO_nn G n _
  · have := congrArg List.length e
    rw [len_pw] at this
    exact G.ne (List.eq_nil_of_length_eq_zero this)
theorem pw_one {ps : Ps} (h : (keys ps).Nodup) : pw ps 1 = ps := by
  unfold pw
  rw [List.map_map]
  conv => rhs; rw [← List.map_id ps]
  refine List.map_congr_left fun q hq => ?_
  obtain ⟨i, hi⟩ := List.mem_iff_getElem?.mp hq
  have := at_fnd h hi
  obtain ⟨x, y, z⟩ := q
  show (x, gow ps 0 (nxt ps x), more ps x + accO ps 0 (nxt ps x)) = (x, y, z)
  have e1 : nxt ps x = y := by unfold nxt; rw [this]; rfl
  have e2 : more ps x = z := by unfold more; rw [this]; rfl
  have e3 : ∀ o, accO ps 0 o = 0 := fun o => by cases o <;> rfl
  rw [e1, e2, e3]
  simp [gow]
theorem aft_pw {ps : Ps} (G : Gd ps) {a b : Nat} : aft (pw ps a) (pw ps b) = pw ps (a + b) := by
  unfold aft
  conv => lhs; unfold pw
  conv => rhs; unfold pw
  rw [List.map_map]
  refine List.map_congr_left fun x hx => ?_
  show (x, (match gow ps b (some x) with | none => ((none : Option Str), accO ps b (some x)) | some s => (nxt (pw ps a) s, more (pw ps a) s + accO ps b (some x)))) = _
  rw [gow_add, accO_add]
  cases h : gow ps b (some x) with
  | none => simp only [gow_none, accO_none, Int.add_zero]
  | some s =>
    have hs := gow_mem G b (fun y hy => by cases hy; exact hx) h
    simp only [nxt_pw hs, more_pw hs]
    rw [Int.add_comm]
theorem enc_map {ps : Ps} : (encP ps).map (·.1) = (keys ps).map Sum.inr := by
  unfold encP
  rw [List.map_map, List.map_map]
  rfl
/-- nothing done -/
theorem pw_zero {ps : Ps} : encP (pw ps 0) = (((encP ps).map (·.1)).map fun k => (k, PV.tup [kP k, .int 0])) := by
  rw [enc_map]
  unfold encP pw
  generalize keys ps = ks
  rw [List.map_map, List.map_map]
  refine List.map_congr_left fun x hx => ?_
  rfl
theorem raw_after_pw {ps : Ps} (G : Gd ps) (h8 : ps.length ≤ 8) {a b n m : Nat} {lk lm : Bool} {st : Store} {P : PV → Store → Prop} (hn : st[n]? = some (.dic lk (encP (pw ps a)))) (hm : st[m]? = some (.dic lm (encP (pw ps b))))
    (p : ∀ r s', New st r s' (.dic false (encP (pw ps (a + b)))) → P (.ref r) s') : W (F_raw_after [.ref n, .ref m] st) P := by
  refine raw_after_ok (by rw [keys_pw]; exact G.nd) (fun q hq s hs => by rw [keys_pw]; have := (G.pw b).src q hq s hs; rw [keys_pw] at this; exact this) (by rw [len_pw]; exact h8) hn hm ?_
  rw [aft_pw G]
  exact p
theorem raw_times_ok {ps : Ps} (G : Gd ps) (h8 : ps.length ≤ 8) {many n : Nat} {lk : Bool} {st : Store} {P : PV → Store → Prop} (hb : many < 2 ^ 200) (hn : st[n]? = some (.dic lk (encP ps)))
    (p : ∀ r s', New st r s' (.dic false (encP (pw ps many))) → P (.ref r) s') : W (F_raw_times [.ref n, .int many] st) P := by
  refine W_run rfl ?_
  unfold b_raw_times
  repeat walk_at "d"
  refine w_dcD (fun k => .tup [kP k, .int 0]) rfl hn (enc_nd G.nd) (by rw [enc_len]; omega) (fun x hx => ⟨_, rfl, fun s _ _ => ?_⟩) fun r s1 h1 => ?_
  · repeat walk_at "d"
    refine ⟨rfl, .refl, ?_⟩
    repeat walk_at "d"
    exact ⟨rfl, .refl⟩
  rw [← pw_zero] at h1
  repeat walk_at "d"
  have f1 := h1.fr
  have hnp : s1[n]? = some (.dic lk (encP (pw ps 1))) := by
    rw [pw_one G.nd]
    walk_at "look"
  refine w_whl (fun m e s => ∃ (r u l a b : Nat) (lu : Bool) (o5 : Option PV), e = [some (.ref n), some (.int many), some (.ref r), some (.ref u), some (.int l), o5] ∧ s[r]? = some (.dic false (encP (pw ps a))) ∧ s[u]? = some (.dic lu (encP (pw ps b))) ∧ a + b * l = many ∧ l < 2 ^ m ∧ Fr [] st s ∧ st.length ≤ r) (n := 200) (fuel_lt (by decide))
    ⟨r, n, many, 0, 1, lk, none, rfl, h1.get, hnp, by omega, hb, f1, h1.le⟩ ?_
  rintro m e s _ ⟨r, u, l, a, b, lu, o5, rfl, hr, hu, hab, hlm, f, hle⟩
  repeat walk_at "d"
  refine i_if (fun t => ?_) (fun t => ?_)
  · have hl0 : 0 < l := by simpa using t
    obtain ⟨m, rfl⟩ : ∃ k, m = k + 1 := by
      cases m with
      | zero => simp at hlm; omega
      | succ k => exact ⟨k, rfl⟩
    have hl2 : l / 2 < 2 ^ m := by rw [Nat.pow_succ] at hlm; omega
    repeat walk_at "d"
    refine i_if (fun t2 => ?_) (fun t2 => ?_)
    · have hodd : l % 2 = 1 := by
        have : (l : Int) % 2 = 1 := by simpa using t2
        omega
      repeat walk_at "d"
      refine raw_after_pw G h8 hr hu fun r2 s2 h2 => ?_
      have f2 := h2.fr
      repeat walk_at "d"
      have hu2 : s2[u]? = some (.dic lu (encP (pw ps b))) := by walk_at "look"
      refine raw_after_pw G h8 hu2 hu2 fun u2 s3 h3 => ?_
      have f3 := h3.fr
      repeat walk_at "d"
      refine ⟨m, by omega, r2, u2, l / 2, a + b, b + b, false, o5, rfl, by walk_at "look", h3.get, ?_, hl2, (f.trans f2).trans f3, ?_⟩
      · have : l = 2 * (l / 2) + 1 := by omega
        rw [← hab]
        conv => rhs; rw [this]
        rw [Nat.mul_add, Nat.add_mul, Nat.mul_left_comm]
        omega
      · have := f.le; have := h2.le; omega
    · have heven : l % 2 = 0 := by
        have : ¬ (l : Int) % 2 = 1 := by simpa using t2
        omega
      repeat walk_at "d"
      refine raw_after_pw G h8 hu hu fun u2 s3 h3 => ?_
      have f3 := h3.fr
      repeat walk_at "d"
      refine ⟨m, by omega, r, u2, l / 2, a, b + b, false, o5, rfl, by walk_at "look", h3.get, ?_, hl2, f.trans f3, hle⟩
      have : l = 2 * (l / 2) := by omega
      rw [← hab]
      conv => rhs; rw [this]
      rw [Nat.add_mul, Nat.mul_left_comm]
      omega
  · have hl0 : l = 0 := by
      have : ¬ 0 < (l : Int) := by simpa using t
      omega
    subst hl0
    rw [Nat.mul_zero, Nat.add_zero] at hab
    subst hab
    repeat walk_at "d"
    exact p r s ⟨hr, hle, at_lt hr, f⟩
theorem check_num_ok {i : Int} (h : 0 ≤ i) {st : Store} {P : PV → Store → Prop} (p : P .non st) : W (F_check_any_number [.int i] st) P := by
  refine W_run rfl ?_
  unfold b_check_any_number
  repeat walk_at "d"
  refine W_of (is_number_ok h _) ?_
  repeat walk_at "d"
  exact p
theorem many_times_ok {ps : Ps} (G : Gd ps) (h8 : ps.length ≤ 8) {many n : Nat} {lk : Bool} {st : Store} {P : PV → Store → Prop} (hb : many < 2 ^ 200) (hn : st[n]? = some (.dic lk (encP ps)))
    (p : ∀ r s', New st r s' (.dic false (encP (pw ps many))) → P (.ref r) s') : W (F_many_times [.ref n, .int many] st) P := by
  refine W_run rfl ?_
  unfold b_many_times
  repeat walk_at "d"
  refine check_push_ok G h8 hn ?_
  repeat walk_at "d"
  refine check_num_ok (by omega) ?_
  repeat walk_at "d"
  refine raw_times_ok G h8 hb hn fun r s' h => ?_
  repeat walk_at "d"
  exact p r s' h
theorem enc_form {ps : Ps} : ∃ f : Str → PV, (keys ps).Nodup → encP ps = (keys ps).map fun x => ((Sum.inr x : Key), f x) := ⟨fun x => encV ((fnd ps x).getD (none, 0)), fun h => by
  unfold encP
  rw [List.map_map]
  refine List.map_congr_left fun q hq => ?_
  obtain ⟨i, hi⟩ := List.mem_iff_getElem?.mp hq
  have := at_fnd h hi
  simp [this]⟩
theorem one_more_ok {ps qs : Ps} (G : Gd ps) (G' : Gd qs) (h8 : ps.length ≤ 8) (hk : (keys ps).Perm (keys qs)) {n m : Nat} {st : Store} {P : PV → Store → Prop} (hn : st[n]? = some (.dic false (encP ps))) (hm : st[m]? = some (.dic false (encP qs)))
    (p : ∀ r s', New st r s' (.dic false (encP (aft ps qs))) → P (.ref r) s') : W (F_one_more [.ref n, .ref m] st) P := by
  have h8' : qs.length ≤ 8 := by
    have := hk.length_eq
    simp at this
    omega
  refine W_run rfl ?_
  unfold b_one_more
  repeat walk_at "d"
  refine check_push_ok G h8 hn ?_
  repeat walk_at "d"
  refine check_push_ok G' h8' hm ?_
  repeat walk_at "d"
  obtain ⟨f, hf⟩ := enc_form (ps := ps)
  refine W_sortD hn (hf G.nd) (by simp; omega) ?_
  refine nLst fun a s1 h1 => ?_
  have f1 := h1.fr
  repeat walk_at "d"
  obtain ⟨f', hf'⟩ := enc_form (ps := qs)
  refine W_sortD (n := m) (by walk_at "look") (hf' G'.nd) (by simp; omega) ?_
  refine nLst fun b s2 h2 => ?_
  have f2 := h2.fr
  repeat walk_at "d"
  rw [sortS_perm hk] at h1
  have e1 : s2[a]? = some (.lst (encR (sortS (keys qs)))) := by walk_at "look"
  have e2 : s2[b]? = some (.lst (encR (sortS (keys qs)))) := h2.get
  have hd : (encR (sortS (keys qs))).all (okD 60) = true := okD_encR (fun x hx => G'.nm x (sortS_is.mem_iff.mp hx)) 60
  refine W_of (a := .bl (!true)) (s := s2) ?_ ?_
  · simp only [fNe, eqB, dicAt, e1, e2, eqB0, lstAt, Option.bind_some, hd, Bool.and_self, if_true, peqs_refl 60 _ hd, Option.map_some]
  repeat walk_at "d"
  refine raw_after_ok (ps := ps) (qs := qs) G'.nd (fun q hq s hs => hk.mem_iff.mpr (G'.src q hq s hs)) h8' (n := n) (lk := false) (by walk_at "look") (lm := false) (by walk_at "look") fun r s' h => ?_
  repeat walk_at "d"
  exact p r s' ⟨h.get, by have := f1.le; have := f2.le; have := h.le; omega, h.lt, (f1.trans f2).trans h.fr⟩
end Pg

/-! PuT: pushed. -/
namespace Pg
open PySem L2 Den
local macro_rules | `(tactic| walk_at "side") => `(tactic| first | assumption | exact List.not_mem_nil | (exact Ne.symm (by assumption)) | (refine nm_one ?_; walk_at "side") | (refine nm_two ?_ ?_ <;> walk_at "side") | (refine nm_cons ?_ ?_ <;> walk_at "side") | omega)
local macro_rules | `(tactic| walk_at "look") => `(tactic| first | assumption | exact New.get (by assumption) | (exact Fr.get (by assumption) (by walk_at "look") (by walk_at "side")) | (exact Fr.get (New.fr (by assumption)) (by walk_at "look") (by walk_at "side")))
local macro_rules | `(tactic| walk_at "d") => `(tactic| first
  | ((with_reducible refine' i_loc ?h ?_); case h => exact rfl)
  | with_reducible refine w_seq.mpr ?_ | with_reducible refine w_set.mpr ?_ | with_reducible refine w_ex.mpr ?_ | with_reducible refine w_ret.mpr ?_ | with_reducible refine w_site.mpr ?_ | with_reducible refine w_asgn.mpr ?_
  | with_reducible refine w_asgs.mpr ?_ | with_reducible refine w_asgT.mpr ?_ | with_reducible refine w_skip.mpr ?_ | with_reducible refine sk_nx ?_ | with_reducible refine sk_ret ?_ | with_reducible refine sk_brk ?_
  | with_reducible refine sk_cont ?_ | with_reducible refine rk_ret ?_ | with_reducible refine rk_nx ?_ | with_reducible refine tk_tup ?_ | with_reducible refine lp_nx ?_ | with_reducible refine lp_cont ?_
  | with_reducible refine lp_brk ?_ | with_reducible refine lp_ret ?_ | with_reducible refine bk_bl ?_ | with_reducible refine w_tnm.mpr ?_ | with_reducible refine w_tsub.mpr ?_ | with_reducible refine w_tnil.mpr ?_
  | with_reducible refine wB_W.mpr ?_ | with_reducible refine w_con.mpr ?_ | with_reducible refine w_app.mpr ?_ | with_reducible refine w_cons.mpr ?_ | with_reducible refine w_nil.mpr ?_ | with_reducible refine w_and.mpr ?_
  | with_reducible refine w_or.mpr ?_ | with_reducible refine w_ite.mpr ?_ | with_reducible refine w_chn.mpr ?_ | with_reducible refine w_mth.mpr ?_ | with_reducible refine w_ofl.mpr ?_ | with_reducible refine w_ixl.mpr ?_
  | with_reducible refine w_dsp.mpr ?_ | with_reducible refine w_map.mpr ?_ | with_reducible refine w_lapp.mpr ?_ | with_reducible refine w_ival.mpr ?_ | with_reducible refine w_irng.mpr ?_ | with_reducible refine w_ienu.mpr ?_
  | with_reducible refine w_iofl.mpr ?_ | with_reducible refine w_izip.mpr ?_ | with_reducible refine w_izip3.mpr ?_ | with_reducible refine zk_tt ?_ | with_reducible refine z3_t ?_ | with_reducible refine i_T ?_
  | with_reducible refine i_F ?_ | with_reducible refine W_add ?_ | with_reducible refine W_sub ?_ | with_reducible refine W_addI ?_ | with_reducible refine W_subI ?_ | with_reducible refine W_neg ?_
  | with_reducible refine W_not ?_ | with_reducible refine W_int ?_ | with_reducible refine W_abs ?_ | with_reducible refine W_lt ?_ | with_reducible refine W_le ?_ | with_reducible refine W_gt ?_
  | with_reducible refine W_ge ?_ | with_reducible refine W_eqI ?_ | with_reducible refine W_neI ?_ | with_reducible refine W_isN ?_ | with_reducible refine W_notN ?_ | with_reducible refine W_tup ?_
  | with_reducible refine W_gTup ?_ | with_reducible refine W_gLen ?_ | with_reducible refine W_lenT ?_ | with_reducible refine W_tupT ?_ | with_reducible refine W_liT ?_ | with_reducible refine W_slHT ?_
  | with_reducible refine W_slLT ?_ | with_reducible refine Wo_srcT ?_ | with_reducible refine W_isiT ?_ | with_reducible refine W_isiI ?_ | with_reducible refine W_isiB ?_ | ((with_reducible refine' W_mul ?h ?_); case h => first | assumption | exact .inr (.inl (by decide)) | exact .inl (by decide) | exact .inl (by omega) | exact .inr (.inl (by omega)))
  | ((with_reducible refine' W_div ?h ?_); case h => first | decide | assumption)
  | ((with_reducible refine' W_mod ?h ?_); case h => first | decide | assumption | omega)
  | ((with_reducible refine' W_pow ?h ?_); case h => decide)
  | ((with_reducible refine' W_ixT ?k ?_); (case k => first | exact atI_0 | exact atI_1 | exact atI_2 | exact atI_3 | assumption))
  | ((with_reducible refine' W_ixL ?h ?k ?_); (case h => walk_at "look"); (case k => first | exact atI_0 | exact atI_1 | exact atI_2 | exact atI_3 | assumption))
  | ((with_reducible refine' W_lenL ?h ?_); case h => walk_at "look")
  | ((with_reducible refine' W_lenD ?h ?_); case h => walk_at "look")
  | ((with_reducible refine' W_tupL ?h ?_); case h => walk_at "look")
  | ((with_reducible refine' W_tupDi ?h ?_); case h => walk_at "look")
  | ((with_reducible refine' W_liL ?h ?_); case h => walk_at "look")
  | ((with_reducible refine' W_liD ?h ?_); case h => walk_at "look")
  | ((with_reducible refine' Wo_srcL ?h ?_); case h => walk_at "look")
  | ((with_reducible refine' W_isiD ?h ?_); case h => walk_at "look")
  | ((with_reducible refine' W_isiL ?h ?_); case h => walk_at "look")
  | ((with_reducible refine' zk_tl ?h ?_); case h => walk_at "look")
  | ((with_reducible refine' zk_lt ?h ?_); case h => walk_at "look")
  | ((with_reducible refine' i_B ?h ?_); case h => first | rfl | assumption | (simp; done))
  | ((with_reducible refine' i_N ?h ?_); case h => first | rfl | assumption | (simp; done))
  | ((with_reducible refine' i_ok ?h ?_); case h => exact isLst_at (by walk_at "look"))
  | ((with_reducible refine' w_lc20 ?h ?_); case h => first | exact rfl | exact lk_list rfl (by walk_at "look"))
  | ((with_reducible refine' w_lc0 ?h ?_); case h => first | exact rfl | exact lk_list rfl (by walk_at "look")))
local macro_rules | `(tactic| walk_at "f") => `(tactic| ((with_reducible refine' w_for0 ?h ?_); case h => first | exact rfl | exact lk_list rfl (by walk_at "look")))

theorem W_allB {st : Store} {xs : List PV} {P : PV → Store → Prop} (h : ∀ x ∈ xs, x = .bl true) (p : P (.bl true) st) : W (gAll xs st) P := by
  have e : xs = xs.map fun _ => PV.bl true := by
    conv => lhs; rw [← List.map_id xs]
    exact List.map_congr_left h
  rw [e]
  exact W_allT p
theorem W_inN {ks : List Str} {v : Str → Int} {st : Store} {n : Nat} {lk : Bool} {x : Str} {P : PV → Store → Prop} (hd : st[n]? = some (.dic lk (encN ks v))) (hx : x ∈ ks) (p : P (.bl true) st) : W (fIn [.str x, .ref n] st) P := by
  refine W_of ?_ p
  simp [fIn, inB, hd, getK, Den.keyOf, getP_encN, hx]
theorem source_ok {ps : Ps} (G : Gd ps) {v : Str → Int} {x : Str} (hx : x ∈ keys ps) {n : Nat} {lk : Bool} {st : Store} {P : PV → Store → Prop} (hd : st[n]? = some (.dic lk (encN (keys ps) v))) (p : P (.int (stp ps v x)) st) : W (F_source_number [.ref n, .tup [encS (nxt ps x), .int (more ps x)]] st) P := by
  refine W_run rfl ?_
  unfold b_source_number
  repeat walk_at "d"
  unfold stp at p
  cases h : nxt ps x with
  | none =>
    rw [h] at p
    refine i_B (by simp [encS]) ?_
    repeat walk_at "d"
    simpa using p
  | some y =>
    rw [h] at p
    refine i_N (by simp [encS]) ?_
    repeat walk_at "d"
    refine W_atN hd (nxt_mem G h) ?_
    repeat walk_at "d"
    rw [Int.add_comm]
    exact p
theorem raw_pushed_ok {ps : Ps} (G : Gd ps) (h8 : ps.length ≤ 8) {v : Str → Int} {n m : Nat} {lk lm : Bool} {st : Store} {P : PV → Store → Prop} (hn : st[n]? = some (.dic lk (encP ps))) (hm : st[m]? = some (.dic lm (encN (keys ps) v))) (nm : n ≠ m)
    (p : ∀ r s', New st r s' (.dic false (encN (keys ps) (stp ps v))) → P (.ref r) s') : W (F_raw_pushed [.ref n, .ref m] st) P := by
  refine W_run rfl ?_
  unfold b_raw_pushed
  repeat walk_at "d"
  refine w_dcD (fun k => match k with | .inr x => .int (stp ps v x) | .inl _ => .non) rfl hn (enc_nd G.nd) (by rw [enc_len]; omega) (fun x hx => ?_) fun r s1 h1 => ?_
  · rw [enc_map] at hx
    obtain ⟨y, hy, rfl⟩ := List.mem_map.mp hx
    refine ⟨_, rfl, fun s hs f => ?_⟩
    have hms : s[m]? = some (.dic lm (encN (keys ps) v)) := f.get hm (by simp; omega)
    repeat walk_at "d"
    refine ⟨rfl, .refl, ?_⟩
    repeat walk_at "d"
    refine W_at hs hy ?_
    repeat walk_at "d"
    refine source_ok G hy hms ?_
    exact ⟨rfl, .refl⟩
  repeat walk_at "d"
  refine p r s1 ?_
  rw [enc_map, List.map_map] at h1
  exact h1
theorem pushed_ok {ps : Ps} (G : Gd ps) (h8 : ps.length ≤ 8) {v : Str → Int} (hv : ∀ x ∈ keys ps, 0 ≤ v x) {n m : Nat} {lk lm : Bool} {st : Store} {P : PV → Store → Prop} (hn : st[n]? = some (.dic lk (encP ps))) (hm : st[m]? = some (.dic lm (encN (keys ps) v))) (nm : n ≠ m)
    (p : ∀ r s', New st r s' (.dic false (encN (keys ps) (stp ps v))) → P (.ref r) s') : W (F_pushed [.ref n, .ref m] st) P := by
  refine W_run rfl ?_
  unfold b_pushed
  repeat walk_at "d"
  refine check_push_ok G h8 hn ?_
  repeat walk_at "d"
  have el : (encN (keys ps) v).length = (encP ps).length := by rw [encN_len, enc_len]; simp
  rw [el]
  repeat walk_at "d"
  refine w_lcD (fun _ => true) (fun _ => .bl true) rfl hn (by rw [enc_len]; omega) (fun k w hk => ?_) ?_
  · obtain ⟨x, hx, rfl⟩ := enc_mem hk
    refine ⟨_, rfl, wB_nil, fun _ => ?_⟩
    repeat walk_at "d"
    refine W_inN (set_ne hm nm) hx ?_
    exact ⟨rfl, rfl⟩
  refine W_allB (by intro x hx; obtain ⟨_, _, e⟩ := List.mem_map.mp hx; exact e.symm) ?_
  repeat walk_at "d"
  refine w_lcD (fun _ => true) (fun _ => .bl true) rfl hn (by rw [enc_len]; omega) (fun k w hk => ?_) ?_
  · obtain ⟨x, hx, rfl⟩ := enc_mem hk
    refine ⟨_, rfl, wB_nil, fun _ => ?_⟩
    repeat walk_at "d"
    refine W_atN (set_ne hm nm) hx ?_
    repeat walk_at "d"
    refine W_of (is_number_ok (hv x hx) _) ?_
    exact ⟨rfl, rfl⟩
  refine W_allB (by intro x hx; obtain ⟨_, _, e⟩ := List.mem_map.mp hx; exact e.symm) ?_
  repeat walk_at "d"
  refine raw_pushed_ok G h8 hn hm nm fun r s' h => ?_
  repeat walk_at "d"
  exact p r s' h
end Pg

namespace Lw
open PySem PySem.Spec PyProof.Rows L2 Den
/-! the trees of common defs of laws; printed by shared.py -/

-- _law_pot('_law_script',)  slots ['_law_script', '_law_marks', '_law_greats', '_law_smalls', '_law_item']
def N_law_pot : List Str := ["_law_script", "_law_marks", "_law_greats", "_law_smalls", "_law_item"]
def b_law_pot : S := (.seq (.set 1 (.ofl gLst (.lc (.val (.app fSlH (.cons (.loc 0) (.cons (.con (.int 63)) .nil)))) (.nm 4) [4] .nil (.app fInt (.cons (.loc 4) .nil)))))
(.seq (.set 2 (.ofl gLst (.lc (.val (.loc 1)) (.nm 4) [4] (.cons (.app fGe (.cons (.app fAbs (.cons (.loc 4) .nil)) (.cons (.app fPow (.cons (.con (.int 10)) (.cons (.con (.int 18)) .nil))) .nil))) .nil) (.app fAbs (.cons (.loc 4) .nil)))))
(.seq (.set 3 (.app fAdd (.cons (.ofl gLst (.lc (.val (.loc 1)) (.nm 4) [4] (.cons (.app fLt (.cons (.app fAbs (.cons (.loc 4) .nil)) (.cons (.app fPow (.cons (.con (.int 10)) (.cons (.con (.int 18)) .nil))) .nil))) .nil) (.app fMod (.cons (.app fInt (.cons (.loc 4) .nil)) (.cons (.con (.int 1000000007)) .nil))))) (.cons (.ofl gLst (.dsp (.cons (.app fAdd (.cons (.app fLen (.cons (.loc 1) .nil)) (.cons (.con (.int 1)) .nil))) .nil))) .nil))))
(.ret (.ofl gLst (.dsp (.cons (.loc 2) (.cons (.loc 3) (.cons (.con (.int 0)) (.cons (.app fMod (.cons (.app fInt (.cons (.app (ofG gSum) (.cons (.loc 3) .nil)) .nil)) (.cons (.con (.int 999983)) .nil))) .nil))))))))))
def F_law_pot : Fn := runF 1 5 b_law_pot

-- _law_draw('_law_pot_here', '_law_many')  slots ['_law_pot_here', '_law_many', '_law_lap', '_law_number', '_law_seed']
def N_law_draw : List Str := ["_law_pot_here", "_law_many", "_law_lap", "_law_number", "_law_seed"]
def b_law_draw : S := (.seq (.set 2 (.app fIx (.cons (.loc 0) (.cons (.con (.int 2)) .nil))))
(.seq (.asg (.sub (.loc 0) (.con (.int 2))) (.app fAdd (.cons (.loc 2) (.cons (.con (.int 1)) .nil))))
(.seq (.ite (.app fGt (.cons (.app fLen (.cons (.app fIx (.cons (.loc 0) (.cons (.con (.int 0)) .nil))) .nil)) (.cons (.con (.int 0)) .nil)))
(.seq (.set 3 (.app fIx (.cons (.app fIx (.cons (.loc 0) (.cons (.con (.int 0)) .nil))) (.cons (.con (.int 0)) .nil))))
(.seq (.asg (.sub (.app fIx (.cons (.loc 0) (.cons (.con (.int 0)) .nil))) (.con (.int 0))) (.app fDiv (.cons (.loc 3) (.cons (.loc 1) .nil))))
(.seq (.ite (.app fLt (.cons (.loc 3) (.cons (.loc 1) .nil)))
(.ex (.mth isLst mPop (.app fIx (.cons (.loc 0) (.cons (.con (.int 0)) .nil))) (.cons (.con (.int 0)) .nil)))
.skip)
(.ret (.app fMod (.cons (.app fInt (.cons (.loc 3) .nil)) (.cons (.loc 1) .nil)))))))
.skip)
(.seq (.set 4 (.app fAdd (.cons (.app fAdd (.cons (.app fMul (.cons (.app fIx (.cons (.app fIx (.cons (.loc 0) (.cons (.con (.int 1)) .nil))) (.cons (.app fMod (.cons (.app fInt (.cons (.loc 2) .nil)) (.cons (.app fLen (.cons (.app fIx (.cons (.loc 0) (.cons (.con (.int 1)) .nil))) .nil)) .nil))) .nil))) (.cons (.con (.int 7919)) .nil))) (.cons (.app fMul (.cons (.con (.int 104729)) (.cons (.loc 2) .nil))) .nil))) (.cons (.app fMul (.cons (.app fIx (.cons (.loc 0) (.cons (.con (.int 3)) .nil))) (.cons (.con (.int 31)) .nil))) .nil))))
(.seq (.set 3 (.app fMod (.cons (.app fInt (.cons (.app fAdd (.cons (.app fMul (.cons (.loc 4) (.cons (.con (.int 48271)) .nil))) (.cons (.con (.int 11)) .nil))) .nil)) (.cons (.con (.int 2147483647)) .nil))))
(.seq (.set 3 (.app fMod (.cons (.app fInt (.cons (.app fMul (.cons (.loc 3) (.cons (.app fAdd (.cons (.app fDiv (.cons (.loc 3) (.cons (.con (.int 1009)) .nil))) (.cons (.con (.int 69621)) .nil))) .nil))) .nil)) (.cons (.con (.int 2147483629)) .nil))))
(.seq (.set 3 (.app fMod (.cons (.app fInt (.cons (.app fAdd (.cons (.app fMul (.cons (.loc 3) (.cons (.app fAdd (.cons (.app fDiv (.cons (.loc 3) (.cons (.con (.int 2003)) .nil))) (.cons (.con (.int 40692)) .nil))) .nil))) (.cons (.loc 2) .nil))) .nil)) (.cons (.con (.int 2147483399)) .nil))))
(.ret (.app fMod (.cons (.app fInt (.cons (.app fDiv (.cons (.loc 3) (.cons (.con (.int 64)) .nil))) .nil)) (.cons (.loc 1) .nil)))))))))))
def F_law_draw : Fn := runF 2 5 b_law_draw

-- _law_any('_law_pot_here', '_law_items')  slots ['_law_pot_here', '_law_items']
def N_law_any : List Str := ["_law_pot_here", "_law_items"]
def b_law_any : S := (.ret (.app fIx (.cons (.loc 1) (.cons (.app F_law_draw (.cons (.loc 0) (.cons (.app fLen (.cons (.loc 1) .nil)) .nil))) .nil))))
def F_law_any : Fn := runF 2 2 b_law_any

-- _law_mixed('_law_pot_here', '_law_items')  slots ['_law_pot_here', '_law_items', '_law_line', '_law_at', '_law_other']
def N_law_mixed : List Str := ["_law_pot_here", "_law_items", "_law_line", "_law_at", "_law_other"]
def b_law_mixed : S := (.seq (.set 2 (.ofl gLst (.app flList (.cons (.loc 1) .nil))))
(.seq (.for (.rng (.cons (.app fLen (.cons (.loc 2) .nil)) .nil)) (.nm 3)
(.seq (.set 4 (.app F_law_draw (.cons (.loc 0) (.cons (.app fLen (.cons (.loc 2) .nil)) .nil))))
(.asgT [(.sub (.loc 2) (.loc 3)), (.sub (.loc 2) (.loc 4))] (.app fTup (.cons (.app fIx (.cons (.loc 2) (.cons (.loc 4) .nil))) (.cons (.app fIx (.cons (.loc 2) (.cons (.loc 3) .nil))) .nil))))))
(.ret (.loc 2))))
def F_law_mixed : Fn := runF 2 5 b_law_mixed

-- _law_is_int('_law_thing',)  slots ['_law_thing']
def N_law_is_int : List Str := ["_law_thing"]
def b_law_is_int : S := (.ret (.and (.app fIsi (.cons (.loc 0) (.cons (.con (.ty "int")) .nil))) (.app fNot (.cons (.app fIsi (.cons (.loc 0) (.cons (.con (.ty "bool")) .nil))) .nil))))
def F_law_is_int : Fn := runF 1 1 b_law_is_int
end Lw

namespace Lw
open PySem PySem.Spec PyProof.Rows L2 Den
/-! the trees of common defs of laws; printed by shared.py -/

-- _law_push_names('_law_pot_here',)  slots ['_law_pot_here']
def N_law_push_names : List Str := ["_law_pot_here"]
def b_law_push_names : S := (.ret (.app fTupD (.cons (.app fSlH (.cons (.app F_law_mixed (.cons (.loc 0) (.cons (.ofl gLst (.dsp (.cons (.con (.str "a")) (.cons (.con (.str "b")) (.cons (.con (.str "c")) (.cons (.con (.str "d")) (.cons (.con (.str "e")) (.cons (.con (.str "x")) (.cons (.con (.str "yy")) (.cons (.con (.str "half")) .nil)))))))))) .nil))) (.cons (.app fAdd (.cons (.con (.int 1)) (.cons (.app F_law_draw (.cons (.loc 0) (.cons (.con (.int 7)) .nil))) .nil))) .nil))) .nil)))
def F_law_push_names : Fn := runF 1 1 b_law_push_names

-- _law_drawn_push('_law_pot_here',)  slots ['_law_pot_here', '_law_names', '_law_line', '_law_sort', '_law_found', '_law_at', '_law_name', '_law_source']
def N_law_drawn_push : List Str := ["_law_pot_here", "_law_names", "_law_line", "_law_sort", "_law_found", "_law_at", "_law_name", "_law_source"]
def b_law_drawn_push : S := (.seq (.set 1 (.app F_law_push_names (.cons (.loc 0) .nil)))
(.seq (.set 2 (.app F_law_mixed (.cons (.loc 0) (.cons (.loc 1) .nil))))
(.seq (.set 3 (.app F_law_draw (.cons (.loc 0) (.cons (.con (.int 4)) .nil))))
(.seq (.set 4 (.app fDic0 .nil))
(.seq (.for (.enu (.loc 1)) (.tp [5, 6])
(.seq (.set 7 (.app F_law_any (.cons (.loc 0) (.cons (.loc 1) .nil))))
(.seq (.ite (.app fEq (.cons (.loc 3) (.cons (.con (.int 1)) .nil)))
(.set 7 (.app fIx (.cons (.loc 2) (.cons (.loc 5) .nil))))
.skip)
(.seq (.ite (.and (.app fEq (.cons (.loc 3) (.cons (.con (.int 2)) .nil))) (.app fGt (.cons (.loc 5) (.cons (.con (.int 0)) .nil))))
(.set 7 (.app fIx (.cons (.loc 1) (.cons (.app fSub (.cons (.loc 5) (.cons (.con (.int 1)) .nil))) .nil))))
.skip)
(.seq (.ite (.app fEq (.cons (.app F_law_draw (.cons (.loc 0) (.cons (.con (.int 8)) .nil))) (.cons (.con (.int 0)) .nil)))
(.set 7 (.con .non))
.skip)
(.asg (.sub (.loc 4) (.loc 6)) (.app fTup (.cons (.loc 7) (.cons (.ixl (.dsp (.cons (.con (.int 0)) (.cons (.con (.int 0)) (.cons (.con (.int 1)) (.cons (.app F_law_draw (.cons (.loc 0) (.cons (.con (.int 4)) .nil))) .nil))))) (.app F_law_draw (.cons (.loc 0) (.cons (.con (.int 4)) .nil)))) .nil)))))))))
(.ret (.loc 4)))))))
def F_law_drawn_push : Fn := runF 1 8 b_law_drawn_push

-- _law_great('_law_pot_here',)  slots ['_law_pot_here', '_law_some']
def N_law_great : List Str := ["_law_pot_here", "_law_some"]
def b_law_great : S := (.seq (.set 1 (.app F_law_draw (.cons (.loc 0) (.cons (.app fPow (.cons (.con (.int 10)) (.cons (.con (.int 9)) .nil))) .nil))))
(.ret (.ixl (.dsp (.cons (.app fMod (.cons (.app fInt (.cons (.loc 1) .nil)) (.cons (.con (.int 30)) .nil))) (.cons (.app fAdd (.cons (.app fPow (.cons (.con (.int 10)) (.cons (.con (.int 20)) .nil))) (.cons (.loc 1) .nil))) (.cons (.app fSub (.cons (.app fSub (.cons (.app fPow (.cons (.con (.int 10)) (.cons (.con (.int 39)) .nil))) (.cons (.con (.int 1)) .nil))) (.cons (.loc 1) .nil))) .nil)))) (.app F_law_draw (.cons (.loc 0) (.cons (.con (.int 3)) .nil))))))
def F_law_great : Fn := runF 1 2 b_law_great
end Lw

namespace Lw
open PySem PySem.Spec PyProof.Rows L2 Den
/-! the trees of common defs of laws; printed by shared.py -/

-- _law_cells('_law_bounds', '_law_measures')  slots ['_law_bounds', '_law_measures', '_law_found', '_law_bound', '_law_measure', '_law_later', '_law_cell', '_law_number']
def N_law_cells : List Str := ["_law_bounds", "_law_measures", "_law_found", "_law_bound", "_law_measure", "_law_later", "_law_cell", "_law_number"]
def b_law_cells : S := (.seq (.set 2 (.ofl gLst (.dsp (.cons (.app fTup .nil) .nil))))
(.seq (.for (.zip (.loc 0) (.loc 1)) (.tp [3, 4])
(.seq (.set 5 (.ofl gLst (.dsp .nil)))
(.seq (.for (.val (.loc 2)) (.nm 6)
(.ex (.mth isLst mExtend (.loc 5) (.cons (.ofl gLst (.lc (.rng (.cons (.app fAdd (.cons (.loc 3) (.cons (.loc 4) .nil))) .nil)) (.nm 7) [7] .nil (.app fAdd (.cons (.loc 6) (.cons (.app fTup (.cons (.loc 7) .nil)) .nil))))) .nil))))
(.set 2 (.loc 5)))))
(.ret (.loc 2))))
def F_law_cells : Fn := runF 2 8 b_law_cells

-- _law_table('_law_pot_here', '_law_many', '_law_forms', '_law_most', '_law_steps')  slots ['_law_pot_here', '_law_many', '_law_forms', '_law_most', '_law_steps', '_law_bounds', '_law_measures', '_law_rows', '_law_cell', '_law_row', '_law_at', '_law_grown', '_law_k', '_law_step']
def N_law_table : List Str := ["_law_pot_here", "_law_many", "_law_forms", "_law_most", "_law_steps", "_law_bounds", "_law_measures", "_law_rows", "_law_cell", "_law_row", "_law_at", "_law_grown", "_law_k", "_law_step"]
def b_law_table : S := (.seq (.set 5 (.ofl gTuple (.lc (.rng (.cons (.loc 1) .nil)) (.nm 12) [12] .nil (.app F_law_draw (.cons (.loc 0) (.cons (.app fAdd (.cons (.loc 3) (.cons (.con (.int 1)) .nil))) .nil))))))
(.seq (.set 6 (.ofl gTuple (.lc (.rng (.cons (.loc 1) .nil)) (.nm 12) [12] .nil (.app fAdd (.cons (.con (.int 1)) (.cons (.app F_law_draw (.cons (.loc 0) (.cons (.loc 3) .nil))) .nil))))))
(.seq (.set 7 (.ofl gLst (.dsp .nil)))
(.seq (.for (.val (.app F_law_cells (.cons (.loc 5) (.cons (.loc 6) .nil)))) (.nm 8)
(.seq (.set 9 (.app fTup .nil))
(.seq (.for (.rng (.cons (.loc 2) .nil)) (.nm 10)
(.seq (.set 11 (.ofl gLst (.dsp .nil)))
(.seq (.for (.rng (.cons (.loc 1) .nil)) (.nm 12)
(.seq (.set 13 (.app F_law_draw (.cons (.loc 0) (.cons (.loc 4) .nil))))
(.ex (.mth isLst mAppend (.loc 11) (.cons (.ite (.app fGe (.cons (.app fIx (.cons (.loc 8) (.cons (.loc 12) .nil))) (.cons (.app fIx (.cons (.loc 5) (.cons (.loc 12) .nil))) .nil))) (.loc 13) (.con (.int 0))) .nil)))))
(.set 9 (.app fAdd (.cons (.loc 9) (.cons (.app fTup (.cons (.app fTup (.cons (.app F_law_draw (.cons (.loc 0) (.cons (.loc 4) .nil))) (.cons (.app fTupD (.cons (.loc 11) .nil)) .nil))) .nil)) .nil)))))))
(.ex (.mth isLst mAppend (.loc 7) (.cons (.loc 9) .nil))))))
(.ret (.app fTup (.cons (.loc 5) (.cons (.loc 6) (.cons (.app fTupD (.cons (.loc 7) .nil)) .nil)))))))))
def F_law_table : Fn := runF 5 14 b_law_table
end Lw

/-! k26: the drawn push. -/
namespace Den
open PySem L2
theorem wS_mid {a b : S} {env : Env} {st : Store} {P : Flow → Env → Store → Prop} (R : Env → Store → Prop) (h : wS a env st fun f e s => f = .nx ∧ R e s) (k : ∀ e s, R e s → wS b e s P) : wS (.seq a b) env st P := by
  refine w_seq.mpr (wF.mono h fun f e s ⟨hf, r⟩ => ?_)
  subst hf
  exact k e s r
theorem wS_post {a : S} {env : Env} {st : Store} {P : Flow → Env → Store → Prop} (R : Env → Store → Prop) (h : wS a env st fun f e s => f = .nx ∧ R e s) (k : ∀ e s, R e s → P .nx e s) : wS a env st P := wF.mono h fun f e s ⟨hf, r⟩ => by
  subst hf
  exact k e s r
theorem enumI_get' : ∀ {xs : List PV} {k i : Nat} {x : PV}, (enumI k xs)[i]? = some x → ∃ y, xs[i]? = some y ∧ x = .tup [.int ((k + i : Nat) : Int), y]
  | [], _, _, _, h => by simp [enumI] at h
  | y :: xs, k, 0, x, h => ⟨y, rfl, by simpa [enumI] using h.symm⟩
  | y :: xs, k, i + 1, x, h => by
    have h' : (enumI (k + 1) xs)[i]? = some x := by simpa [enumI] using h
    obtain ⟨z, hz, e⟩ := enumI_get' h'
    refine ⟨z, by simpa using hz, ?_⟩
    rw [e]
    congr 3
    omega
theorem enumI_len' : ∀ {xs : List PV} {k : Nat}, (enumI k xs).length = xs.length
  | [], _ => rfl
  | x :: xs, k => by simp [enumI, enumI_len']
end Den
namespace Lw
open PySem L2 Den Pg
local macro_rules | `(tactic| walk_at "d") => `(tactic| first
  | ((with_reducible refine' i_loc ?h ?_); case h => exact rfl)
  | with_reducible refine w_seq.mpr ?_ | with_reducible refine w_set.mpr ?_ | with_reducible refine w_ex.mpr ?_ | with_reducible refine w_ret.mpr ?_ | with_reducible refine w_site.mpr ?_ | with_reducible refine w_asgn.mpr ?_ | with_reducible refine w_asgs.mpr ?_ | with_reducible refine w_asgT.mpr ?_
  | with_reducible refine w_skip.mpr ?_ | with_reducible refine sk_nx ?_ | with_reducible refine sk_ret ?_ | with_reducible refine sk_brk ?_ | with_reducible refine sk_cont ?_ | with_reducible refine rk_ret ?_ | with_reducible refine rk_nx ?_ | with_reducible refine tk_tup ?_
  | with_reducible refine bk_bl ?_ | with_reducible refine w_tnm.mpr ?_ | with_reducible refine w_tsub.mpr ?_ | with_reducible refine w_tnil.mpr ?_ | with_reducible refine wB_W.mpr ?_ | with_reducible refine w_con.mpr ?_ | with_reducible refine w_app.mpr ?_ | with_reducible refine w_cons.mpr ?_
  | with_reducible refine w_nil.mpr ?_ | with_reducible refine w_and.mpr ?_ | with_reducible refine w_or.mpr ?_ | with_reducible refine w_ite.mpr ?_ | with_reducible refine w_chn.mpr ?_ | with_reducible refine w_mth.mpr ?_ | with_reducible refine w_ofl.mpr ?_ | with_reducible refine w_ixl.mpr ?_
  | with_reducible refine w_dsp.mpr ?_ | with_reducible refine w_lapp.mpr ?_ | with_reducible refine w_ival.mpr ?_ | with_reducible refine w_irng.mpr ?_ | with_reducible refine w_ienu.mpr ?_ | with_reducible refine w_iofl.mpr ?_ | with_reducible refine i_T ?_ | with_reducible refine i_F ?_
  | with_reducible refine W_add ?_ | with_reducible refine W_sub ?_ | with_reducible refine W_addI ?_ | with_reducible refine W_subI ?_ | with_reducible refine W_neg ?_ | with_reducible refine W_not ?_ | with_reducible refine W_int ?_ | with_reducible refine W_abs ?_
  | with_reducible refine W_lt ?_ | with_reducible refine W_le ?_ | with_reducible refine W_gt ?_ | with_reducible refine W_ge ?_ | with_reducible refine W_eqI ?_ | with_reducible refine W_neI ?_ | with_reducible refine W_isN ?_ | with_reducible refine W_notN ?_
  | with_reducible refine W_tup ?_ | with_reducible refine W_gLst ?_ | with_reducible refine W_gTup ?_ | with_reducible refine W_gLen ?_ | with_reducible refine W_dic0 ?_ | with_reducible refine W_lenT ?_ | with_reducible refine W_tupT ?_ | with_reducible refine W_liT ?_
  | with_reducible refine W_slHT ?_ | with_reducible refine W_slLT ?_ | with_reducible refine W_slHS ?_ | with_reducible refine Wo_srcT ?_
  | ((with_reducible refine' W_mul ?h ?_); case h => first | exact .inr (.inl (by decide)) | exact .inl (by decide) | exact .inl (by omega))
  | ((with_reducible refine' W_div ?h ?_); case h => decide)
  | ((with_reducible refine' W_mod ?h ?_); case h => decide)
  | ((with_reducible refine' W_pow ?h ?_); case h => decide)
  | ((with_reducible refine' W_ixL ?h ?k ?_); (case h => assumption); (case k => first | exact atI_0 | exact atI_1 | exact atI_2 | exact atI_3 | assumption))
  | ((with_reducible refine' W_lenL ?h ?_); case h => assumption))

theorem perm_enc {ys : List PV} {l0 : List Str} (h : ys.Perm (encR l0)) : ∃ l, ys = encR l ∧ l.Perm l0 := by
  let un : PV → Str := fun v => match v with | .str s => s | _ => ""
  have e0 : ∀ l : List Str, (encR l).map un = l := fun l => by
    unfold encR
    rw [List.map_map]
    exact List.map_id' l
  refine ⟨ys.map un, ?_, ?_⟩
  · unfold encR
    rw [List.map_map]
    conv => lhs; rw [← List.map_id ys]
    refine List.map_congr_left fun y hy => ?_
    obtain ⟨s, _, rfl⟩ := List.mem_map.mp (h.mem_iff.mp hy)
    rfl
  · have := h.map un
    rw [e0] at this
    exact this
abbrev Nms (ns : List Str) : Prop := ns.Nodup ∧ (∀ x ∈ ns, x ∈ names8) ∧ ns ≠ [] ∧ ns.length ≤ 8
theorem W_mixed {p g s : Nat} {st : Store} {v : PV} {xs : List PV} {P : PV → Store → Prop} (h : Pot p g s st) (hv : flList [v] st = some (xs, st)) (hl : xs.length ≤ 1000000)
    (k : ∀ (n : Nat) (ys : List PV) (st' : Store), st.length ≤ n → st'[n]? = some (.lst ys) → ys.Perm xs → Pot p g s st' → Fr [p, g] st st' → P (.ref n) st') : W (F_law_mixed [.ref p, v] st) P := mixed_ok h hv hl k
theorem W_drw {p g s : Nat} {st : Store} {m : Int} {P : PV → Store → Prop} (h : Pot p g s st) (h0 : 0 < m) (h1 : m < 10 ^ 200) (k : ∀ (r : Int) (st' : Store), 0 ≤ r → r < m → Pot p g s st' → st'.length = st.length → Fr [p, g] st st' → P (.int r) st') :
    W (F_law_draw [.ref p, .int m] st) P := W_draw h h0 h1 k
theorem push_names_ok {p g s : Nat} {st : Store} {P : PV → Store → Prop} (h : Pot p g s st) (k : ∀ (ns : List Str) (st' : Store), Nms ns → Pot p g s st' → Fr [p, g] st st' → P (.tup (encR ns)) st') : W (F_law_push_names [.ref p] st) P := by
  refine W_run rfl ?_
  unfold b_law_push_names
  repeat walk_at "d"
  refine W_mixed (xs := encR names8) h.app (by simp [flList, app_new, encR, names8]) (by simp [encR, names8]) fun n ys st2 hn hat hperm hpot hf => ?_
  repeat walk_at "d"
  refine W_drw hpot (by decide) (by decide +kernel) fun r st3 r0 r1 hpot3 hl3 hf3 => ?_
  obtain ⟨l, rfl, hl⟩ := perm_enc hperm
  have hlt := hpot.lt
  have hlt0 := h.lt
  simp only [List.length_append, List.length_singleton] at hn
  have hat3 : st3[n]? = some (.lst (encR l)) := hf3.get hat (by simp; omega)
  repeat walk_at "d"
  refine W_slHL hat3 ?_
  have er : (1 + r) = ((1 + r.toNat : Nat) : Int) := by omega
  rw [er, take_enc]
  repeat walk_at "d"
  refine W_tupL app_new ?_
  repeat walk_at "d"
  have hll := hl.length_eq
  refine k (l.take (1 + r.toNat)) _ ⟨?_, fun x hx => hl.mem_iff.mp (List.mem_of_mem_take hx), ?_, ?_⟩ hpot3.app ?_
  · exact ((hl.nodup_iff).mpr (by decide)).sublist (List.take_sublist _ _)
  · intro e
    have := congrArg List.length e
    simp [hll, names8] at this <;> omega
  · simp [hll, names8]; omega
  · exact ((Fr.app _).trans hf).trans (hf3.trans (Fr.app _))
theorem not_mem_take {ns : List Str} {j : Nat} {nm : Str} (h : ns.Nodup) (e : ns[j]? = some nm) : nm ∉ ns.take j := by
  intro hm
  rw [← List.take_append_drop j ns, List.nodup_append] at h
  exact h.2.2 nm hm nm (List.mem_of_getElem? (i := 0) (by rw [List.getElem?_drop]; exact e)) rfl
structure Pa (ns : List Str) (j : Nat) (ps : Ps) : Prop where
  ks : keys ps = ns.take j
  src : ∀ q ∈ ps, ∀ s, q.2.1 = some s → s ∈ ns
  mo : ∀ q ∈ ps, 0 ≤ q.2.2 ∧ q.2.2 ≤ 3
theorem Pa.gd {ns : List Str} {ps : Ps} (h : Pa ns ns.length ps) (hn : Nms ns) : Gd ps ∧ ps.length ≤ 8 := by
  have e : keys ps = ns := by rw [h.ks, List.take_length]
  have el : ps.length = ns.length := by rw [← e]; simp
  refine ⟨⟨by rw [e]; exact hn.2.1, by rw [e]; exact hn.1, fun q hq s hs => by rw [e]; exact h.src q hq s hs, fun q hq => (h.mo q hq).1, fun e2 => ?_⟩, by rw [el]; exact hn.2.2.2⟩
  subst e2
  exact hn.2.2.1 e.symm
theorem encS_src {v : PV} {ns : List Str} (h : v ∈ encR ns) : ∃ src, v = encS src ∧ ∀ s, src = some s → s ∈ ns := by
  obtain ⟨y, hy, rfl⟩ := List.mem_map.mp h
  exact ⟨some y, rfl, fun s e => by cases e; exact hy⟩
theorem drawn_push_ok {p g s : Nat} {st : Store} {P : PV → Store → Prop} (h : Pot p g s st) (k : ∀ (n : Nat) (ps : Ps) (st' : Store), Gd ps → ps.length ≤ 8 → (∀ q ∈ ps, q.2.2 ≤ 3) → st.length ≤ n → st'[n]? = some (.dic false (encP ps)) → Pot p g s st' → Fr [p, g] st st' → P (.ref n) st') : W (F_law_drawn_push [.ref p] st) P := by
  refine W_run rfl ?_
  unfold b_law_drawn_push
  repeat walk_at "d"
  refine push_names_ok h fun ns st1 hns hpot1 hf1 => ?_
  repeat walk_at "d"
  refine W_mixed (xs := encR ns) hpot1 rfl (by have := hns.2.2.2; simp [encR]; omega) fun ln ys st2 hln hat hperm hpot2 hf2 => ?_
  obtain ⟨l, rfl, hl⟩ := perm_enc hperm
  repeat walk_at "d"
  refine W_drw hpot2 (by decide) (by decide +kernel) fun so st3 so0 so1 hpot3 hl3 hf3 => ?_
  have hlt1 := hpot1.lt
  have hat3 : st3[ln]? = some (.lst (encR l)) := hf3.get hat (by simp; omega)
  repeat walk_at "d"
  have hat4 := app_get (x := [Ob.dic false []]) hat3
  have hd4 : (st3 ++ [Ob.dic false []])[st3.length]? = some (.dic false (encP [])) := app_new
  have hpot4 : Pot p g s (st3 ++ [Ob.dic false []]) := hpot3.app
  have hf4 : Fr [p, g] st (st3 ++ [Ob.dic false []]) := ((hf1.trans hf2).trans hf3).trans (Fr.app _)
  have hlt3 := hpot3.lt
  have hlnl : ln < st3.length := (List.getElem?_eq_some_iff.mp hat3).1
  generalize hn : st3.length = n at *
  have hn0 : st.length ≤ n := by have := hf1.le; have := hf2.le; have := hf3.le; omega
  generalize st3 ++ [Ob.dic false []] = st4 at *
  refine wS_post (fun e s' => ∃ ps o5 o6 o7, e = [some (.ref p), some (.tup (encR ns)), some (.ref ln), some (.int so), some (.ref n), o5, o6, o7] ∧ Pa ns ns.length ps ∧ s'[n]? = some (.dic false (encP ps)) ∧ Pot p g s s' ∧ Fr [p, g] st s') ?_ ?_
  · rw [w_for]
    simp only [lkOf, setLk]
    repeat walk_at "d"
    refine Wo_of rfl ?_
    refine for_inv (fun j e s' => ∃ ps o5 o6 o7, e = [some (.ref p), some (.tup (encR ns)), some (.ref ln), some (.int so), some (.ref n), o5, o6, o7] ∧ Pa ns j ps ∧ s'[n]? = some (.dic false (encP ps)) ∧ s'[ln]? = some (.lst (encR l)) ∧ Pot p g s s' ∧ Fr [p, g] st s') (k := 0) (n := ns.length) (by simp [enumI_len', encR])
      ⟨[], none, none, none, rfl, ⟨by simp, by simp, by simp⟩, hd4, hat4, hpot4, hf4⟩ ?_ ?_
    · rintro j x e s' hx ⟨ps, o5, o6, o7, rfl, hpa, hd, hat, hpot, hf⟩
      rw [Nat.zero_add] at hpa ⊢
      obtain ⟨y, hy, rfl⟩ := enumI_get' hx
      unfold encR at hy
      rw [List.getElem?_map] at hy
      cases hnj : ns[j]? with
      | none => simp [hnj] at hy
      | some nm =>
        rw [hnj] at hy
        have : PV.str nm = y := by simpa using hy
        subst this
        rw [Nat.zero_add]
        have hj := (List.getElem?_eq_some_iff.mp hnj).1
        have hnm : nm ∈ ns := List.mem_of_getElem? hnj
        refine ⟨rfl, _, rfl, ?_⟩
        change wS _ _ _ _
        have hlen : ns.length ≤ 8 := hns.2.2.2
        have hll := hl.length_eq
        -- the source
        refine w_seq.mpr (w_set.mpr (w_app.mpr ?_))
        repeat walk_at "d"
        refine W_any (xs := encR ns) hpot (.inl ⟨_, rfl, rfl⟩) (by intro z; exact hns.2.2.1 (List.map_eq_nil_iff.mp z)) (by simp [encR]; omega) fun v s2 hv hpot2 hl2 hf2 => ?_
        obtain ⟨src, rfl, hsrc⟩ := encS_src hv
        have hd2 : s2[n]? = some (.dic false (encP ps)) := hf2.get hd (by simp; omega)
        have hat2 : s2[ln]? = some (.lst (encR l)) := hf2.get hat (by simp; omega)
        have hft := hf.trans hf2
        clear hd hat hpot hf hv hf2
        refine sk_nx ?_
        refine wS_mid (fun e s' => s' = s2 ∧ ∃ src, e = [some (.ref p), some (.tup (encR ns)), some (.ref ln), some (.int so), some (.ref n), some (.int (j : Nat)), some (.str nm), some (encS src)] ∧ ∀ s, src = some s → s ∈ ns) ?_ ?_
        · repeat walk_at "d"
          refine i_if (fun t => ?_) fun t => ?_
          · repeat walk_at "d"
            obtain ⟨a, ha, ha'⟩ := atI_some (xs := encR l) (i := (j : Int)) (by omega) (by simp [encR, hll]; omega)
            refine W_ixL hat2 ha ?_
            have hm : a ∈ encR ns := hperm.mem_iff.mp (List.mem_of_getElem? ha')
            obtain ⟨src2, rfl, hs2⟩ := encS_src hm
            exact ⟨rfl, rfl, src2, rfl, hs2⟩
          · repeat walk_at "d"
            exact ⟨rfl, rfl, src, rfl, hsrc⟩
        rintro e s' ⟨rfl, src, rfl, hsrc⟩
        refine wS_mid (fun e s'' => s'' = s' ∧ ∃ src, e = [some (.ref p), some (.tup (encR ns)), some (.ref ln), some (.int so), some (.ref n), some (.int (j : Nat)), some (.str nm), some (encS src)] ∧ ∀ s, src = some s → s ∈ ns) ?_ ?_
        · repeat walk_at "d"
          refine i_if (fun t => ?_) fun t => ?_
          · repeat walk_at "d"
            refine i_if (fun t => ?_) fun t => ?_
            · have hj0 : 0 < j := by simpa using t
              repeat walk_at "d"
              obtain ⟨a, ha, ha'⟩ := atI_some (xs := encR ns) (i := (j : Int) - 1) (by omega) (by simp [encR]; omega)
              refine W_ixT ha ?_
              obtain ⟨src2, rfl, hs2⟩ := encS_src (List.mem_of_getElem? ha')
              exact ⟨rfl, rfl, src2, rfl, hs2⟩
            · repeat walk_at "d"
              exact ⟨rfl, rfl, src, rfl, hsrc⟩
          · repeat walk_at "d"
            exact ⟨rfl, rfl, src, rfl, hsrc⟩
        rintro e s'' ⟨rfl, src, rfl, hsrc⟩
        refine wS_mid (fun e s3 => Pot p g s s3 ∧ Fr [p, g] s'' s3 ∧ ∃ src, e = [some (.ref p), some (.tup (encR ns)), some (.ref ln), some (.int so), some (.ref n), some (.int (j : Nat)), some (.str nm), some (encS src)] ∧ ∀ s, src = some s → s ∈ ns) ?_ ?_
        · repeat walk_at "d"
          refine W_drw hpot2 (by decide) (by decide +kernel) fun r s3 r0 r1 hpot3 hl3 hf3 => ?_
          repeat walk_at "d"
          refine i_if (fun t => ?_) fun t => ?_
          · repeat walk_at "d"
            exact ⟨rfl, hpot3, hf3, none, rfl, fun s e => nomatch e⟩
          · repeat walk_at "d"
            exact ⟨rfl, hpot3, hf3, src, rfl, hsrc⟩
        rintro e s3 ⟨hpot3, hf3, src, rfl, hsrc⟩
        repeat walk_at "d"
        refine W_drw hpot3 (by decide) (by decide +kernel) fun r s4 r0 r1 hpot4 hl4 hf4 => ?_
        repeat walk_at "d"
        refine W_drw hpot4 (by decide) (by decide +kernel) fun r2 s5 r20 r21 hpot5 hl5 hf5 => ?_
        obtain ⟨a, ha, ha'⟩ := atI_some (xs := [PV.int 0, .int 0, .int 1, .int r]) (i := r2) r20 (by simpa using r21)
        refine Wo_of (a := a) (by simpa [gIx] using ha) ?_
        have hmo : ∃ mo : Int, a = .int mo ∧ 0 ≤ mo ∧ mo ≤ 3 := by
          have := List.mem_of_getElem? ha'
          simp only [List.mem_cons, List.not_mem_nil, or_false] at this
          rcases this with rfl | rfl | rfl | rfl
          · exact ⟨0, rfl, by decide, by decide⟩
          · exact ⟨0, rfl, by decide, by decide⟩
          · exact ⟨1, rfl, by decide, by decide⟩
          · exact ⟨r, rfl, r0, by omega⟩
        obtain ⟨mo, rfl, hmo⟩ := hmo
        have hf35 := (hf3.trans hf4).trans hf5
        have hd5 : s5[n]? = some (.dic false (encP ps)) := hf35.get hd2 (by simp; omega)
        have hat5 : s5[ln]? = some (.lst (encR l)) := hf35.get hat2 (by simp; omega)
        repeat walk_at "d"
        have pl : ps.length = j := by
          have := congrArg List.length hpa.ks
          simp at this
          omega
        refine Wo_setD (k := .inr nm) hd5 rfl (by rw [enc_len]; omega) ?_
        have hnew : nm ∉ keys ps := by
          rw [hpa.ks]
          exact not_mem_take hns.1 hnj
        have hg0 : getP (.inr nm) (encP ps) = none := by
          rw [getP_enc]
          unfold fnd
          cases hf : ps.find? fun q => decide (q.1 = nm) with
          | none => rfl
          | some q =>
            exfalso
            have h1 := List.find?_some hf
            simp only [decide_eq_true_eq] at h1
            exact hnew (List.mem_map.mpr ⟨q, List.mem_of_find?_eq_some hf, h1⟩)
        rw [putP_new hg0]
        have ee : encP ps ++ [((.inr nm : Key), PV.tup [encS src, .int mo])] = encP (ps ++ [(nm, src, mo)]) := by
          unfold encP
          rw [List.map_append]
          rfl
        rw [ee]
        refine ⟨ps ++ [(nm, src, mo)], _, _, _, rfl, ⟨?_, ?_, ?_⟩, set_eq hd5, set_ne hat5 (by omega), hpot5.fr (Fr.set (ps := [n]) (by simp)) (by simp; omega) (by simp; omega) (by simp; omega), ?_⟩
        · show List.map _ _ = _
          rw [List.map_append, List.take_add_one, hnj]
          have := hpa.ks
          unfold keys at this
          rw [this]
          rfl
        · intro q hq t ht
          rcases List.mem_append.mp hq with z | z
          · exact hpa.src q z t ht
          · have : q = (nm, src, mo) := by simpa using z
            subst this
            exact hsrc t ht
        · intro q hq
          rcases List.mem_append.mp hq with z | z
          · exact hpa.mo q z
          · have : q = (nm, src, mo) := by simpa using z
            subst this
            exact hmo
        · have hall := hft.trans hf35
          refine ⟨by have := hall.le; simpa using this, fun i hi hp => ?_⟩
          rw [List.getElem?_set_ne (by omega), hall.eq i hi hp]
    · rintro e s' ⟨ps, o5, o6, o7, rfl, hpa, hd, hat, hpot, hf⟩
      exact ⟨rfl, rfl, ps, o5, o6, o7, rfl, hpa, hd, hpot, hf⟩
  · rintro e s' ⟨ps, o5, o6, o7, rfl, hpa, hd, hpot, hf⟩
    repeat walk_at "d"
    obtain ⟨hg, h8⟩ := hpa.gd hns
    exact k n ps s' hg h8 (fun q hq => (hpa.mo q hq).2) hn0 hd hpot hf
end Lw

/-! LpB: great numbers. -/
namespace Lw
open PySem L2 Den Pg
local macro_rules | `(tactic| walk_at "side") => `(tactic| first | assumption | exact List.not_mem_nil | (exact Ne.symm (by assumption)) | (refine nm_one ?_; walk_at "side") | (refine nm_two ?_ ?_ <;> walk_at "side") | (refine nm_cons ?_ ?_ <;> walk_at "side") | omega)
local macro_rules | `(tactic| walk_at "look") => `(tactic| first | assumption | exact New.get (by assumption) | (exact Fr.get (by assumption) (by walk_at "look") (by walk_at "side")) | (exact Fr.get (New.fr (by assumption)) (by walk_at "look") (by walk_at "side")))
local macro_rules | `(tactic| walk_at "d") => `(tactic| first
  | ((with_reducible refine' i_loc ?h ?_); case h => exact rfl)
  | with_reducible refine w_seq.mpr ?_ | with_reducible refine w_set.mpr ?_ | with_reducible refine w_ex.mpr ?_ | with_reducible refine w_ret.mpr ?_ | with_reducible refine w_site.mpr ?_ | with_reducible refine w_asgn.mpr ?_
  | with_reducible refine w_asgs.mpr ?_ | with_reducible refine w_asgT.mpr ?_ | with_reducible refine w_skip.mpr ?_ | with_reducible refine sk_nx ?_ | with_reducible refine sk_ret ?_ | with_reducible refine sk_brk ?_
  | with_reducible refine sk_cont ?_ | with_reducible refine rk_ret ?_ | with_reducible refine rk_nx ?_ | with_reducible refine tk_tup ?_ | with_reducible refine lp_nx ?_ | with_reducible refine lp_cont ?_
  | with_reducible refine lp_brk ?_ | with_reducible refine lp_ret ?_ | with_reducible refine bk_bl ?_ | with_reducible refine w_tnm.mpr ?_ | with_reducible refine w_tsub.mpr ?_ | with_reducible refine w_tnil.mpr ?_
  | with_reducible refine wB_W.mpr ?_ | with_reducible refine w_con.mpr ?_ | with_reducible refine w_app.mpr ?_ | with_reducible refine w_cons.mpr ?_ | with_reducible refine w_nil.mpr ?_ | with_reducible refine w_and.mpr ?_
  | with_reducible refine w_or.mpr ?_ | with_reducible refine w_ite.mpr ?_ | with_reducible refine w_chn.mpr ?_ | with_reducible refine w_mth.mpr ?_ | with_reducible refine w_ofl.mpr ?_ | with_reducible refine w_ixl.mpr ?_
  | with_reducible refine w_dsp.mpr ?_ | with_reducible refine w_map.mpr ?_ | with_reducible refine w_lapp.mpr ?_ | with_reducible refine w_ival.mpr ?_ | with_reducible refine w_irng.mpr ?_ | with_reducible refine w_ienu.mpr ?_
  | with_reducible refine w_iofl.mpr ?_ | with_reducible refine w_izip.mpr ?_ | with_reducible refine w_izip3.mpr ?_ | with_reducible refine zk_tt ?_ | with_reducible refine z3_t ?_ | with_reducible refine i_T ?_
  | with_reducible refine i_F ?_ | with_reducible refine W_add ?_ | with_reducible refine W_sub ?_ | with_reducible refine W_addI ?_ | with_reducible refine W_subI ?_ | with_reducible refine W_neg ?_
  | with_reducible refine W_not ?_ | with_reducible refine W_int ?_ | with_reducible refine W_abs ?_ | with_reducible refine W_lt ?_ | with_reducible refine W_le ?_ | with_reducible refine W_gt ?_
  | with_reducible refine W_ge ?_ | with_reducible refine W_eqI ?_ | with_reducible refine W_neI ?_ | with_reducible refine W_isN ?_ | with_reducible refine W_notN ?_ | with_reducible refine W_tup ?_
  | with_reducible refine W_gTup ?_ | with_reducible refine W_gLen ?_ | with_reducible refine W_lenT ?_ | with_reducible refine W_tupT ?_ | with_reducible refine W_liT ?_ | with_reducible refine W_slHT ?_
  | with_reducible refine W_slLT ?_ | with_reducible refine Wo_srcT ?_ | with_reducible refine W_isiT ?_ | with_reducible refine W_isiI ?_ | with_reducible refine W_isiB ?_ | ((with_reducible refine' W_mul ?h ?_); case h => first | assumption | exact .inr (.inl (by decide)) | exact .inl (by decide) | exact .inl (by omega) | exact .inr (.inl (by omega)))
  | ((with_reducible refine' W_div ?h ?_); case h => first | decide | assumption)
  | ((with_reducible refine' W_mod ?h ?_); case h => first | decide | assumption | omega)
  | ((with_reducible refine' W_pow ?h ?_); case h => decide)
  | ((with_reducible refine' W_ixT ?k ?_); (case k => first | exact atI_0 | exact atI_1 | exact atI_2 | exact atI_3 | assumption))
  | ((with_reducible refine' W_ixL ?h ?k ?_); (case h => walk_at "look"); (case k => first | exact atI_0 | exact atI_1 | exact atI_2 | exact atI_3 | assumption))
  | ((with_reducible refine' W_lenL ?h ?_); case h => walk_at "look")
  | ((with_reducible refine' W_lenD ?h ?_); case h => walk_at "look")
  | ((with_reducible refine' W_tupL ?h ?_); case h => walk_at "look")
  | ((with_reducible refine' W_tupDi ?h ?_); case h => walk_at "look")
  | ((with_reducible refine' W_liL ?h ?_); case h => walk_at "look")
  | ((with_reducible refine' W_liD ?h ?_); case h => walk_at "look")
  | ((with_reducible refine' Wo_srcL ?h ?_); case h => walk_at "look")
  | ((with_reducible refine' W_isiD ?h ?_); case h => walk_at "look")
  | ((with_reducible refine' W_isiL ?h ?_); case h => walk_at "look")
  | ((with_reducible refine' zk_tl ?h ?_); case h => walk_at "look")
  | ((with_reducible refine' zk_lt ?h ?_); case h => walk_at "look")
  | ((with_reducible refine' i_B ?h ?_); case h => first | rfl | assumption | (simp; done))
  | ((with_reducible refine' i_N ?h ?_); case h => first | rfl | assumption | (simp; done))
  | ((with_reducible refine' i_ok ?h ?_); case h => exact isLst_at (by walk_at "look"))
  | ((with_reducible refine' w_lc20 ?h ?_); case h => first | exact rfl | exact lk_list rfl (by walk_at "look"))
  | ((with_reducible refine' w_lc0 ?h ?_); case h => first | exact rfl | exact lk_list rfl (by walk_at "look")))
local macro_rules | `(tactic| walk_at "f") => `(tactic| ((with_reducible refine' w_for0 ?h ?_); case h => first | exact rfl | exact lk_list rfl (by walk_at "look")))

theorem great_ok {p g s : Nat} {st : Store} {P : PV → Store → Prop} (h : Pot p g s st) (k : ∀ (v : Nat) (st' : Store), v < 10 ^ 39 → Pot p g s st' → st'.length = st.length → Fr [p, g] st st' → P (.int v) st') : W (F_law_great [.ref p] st) P := by
  refine W_run rfl ?_
  unfold b_law_great
  repeat walk_at "d"
  refine W_drw h (by decide +kernel) (by decide +kernel) fun r s1 r0 r1 h1 l1 f1 => ?_
  repeat walk_at "d"
  refine W_drw h1 (by decide) (by decide +kernel) fun q s2 q0 q1 h2 l2 f2 => ?_
  have e9 : (10 : Int) ^ (9 : Int).toNat = 1000000000 := by decide +kernel
  have e20 : (10 : Int) ^ (20 : Int).toNat = 100000000000000000000 := by decide +kernel
  have e39 : (10 : Int) ^ (39 : Int).toNat = 1000000000000000000000000000000000000000 := by decide +kernel
  have n39 : (10 : Nat) ^ 39 = 1000000000000000000000000000000000000000 := by decide +kernel
  rw [e9] at r1
  have key : ∀ w : Int, 0 ≤ w → w < 1000000000000000000000000000000000000000 → retK P (.ret (.int w)) [some (.ref p), some (.int r)] s2 := by
    intro w w0 w1
    have := k w.toNat s2 (by rw [n39]; omega) h2 (by omega) (f1.trans f2)
    rw [Int.toNat_of_nonneg w0] at this
    exact this
  have hq : q = 0 ∨ q = 1 ∨ q = 2 := by omega
  rw [e20, e39]
  rcases hq with rfl | rfl | rfl
  · refine Wo_of (a := .int (r % 30)) (by simp [gIx]) ?_
    exact key _ (by omega) (by omega)
  · refine Wo_of (a := .int (100000000000000000000 + r)) (by simp [gIx]) ?_
    exact key _ (by omega) (by omega)
  · refine Wo_of (a := .int (1000000000000000000000000000000000000000 - 1 - r)) (by simp [gIx]) ?_
    exact key _ (by omega) (by omega)
theorem is_int_ok {i : Int} {st : Store} {P : PV → Store → Prop} (q : P (.bl true) st) : W (F_law_is_int [.int i] st) P := W_of rfl q
end Lw

namespace Pg
end Pg
namespace Lw
end Lw
namespace Lh
end Lh
namespace Lu
end Lu
namespace K24
open PySem PySem.Spec PyProof.Rows L2 Den Pg Lw
/-! the trees of the defs of k24_whole_pushes_of_deeds; printed by pr.py -/
-- is_integer: PgChecks
-- is_number: PgChecks
-- is_name: PgChecks

-- are_names('thing', 'least', 'most')  slots ['thing', 'least', 'most', 'item']  level 2
def N_are_names : List Str := ["thing", "least", "most", "item"]
def b_are_names : S := (.seq (.ite (.or (.app fNot (.cons (.app fIsi (.cons (.loc 0) (.cons (.con (.ty "tuple")) .nil))) .nil)) (.app fNot (.cons (.chn fLe fLe (.loc 1) (.app fLen (.cons (.loc 0) .nil)) (.loc 2)) .nil)))
(.ret (.con (.bl false)))
.skip)
(.ret (.and (.ofl gAll (.lc (.val (.loc 0)) (.nm 3) [3] .nil (.app F_is_name (.cons (.loc 3) .nil)))) (.app fEq (.cons (.app fLenSet (.cons (.loc 0) .nil)) (.cons (.app fLen (.cons (.loc 0) .nil)) .nil))))))
def F_are_names : Fn := runF 3 4 b_are_names
-- is_deed: PgProgA
-- is_push: PgPushes
-- check_push: PgPushes
-- raw_push: PgPushes

-- push_of('own', 'deeds')  slots ['own', 'deeds', 'deed', 'name']  level 3
def N_push_of : List Str := ["own", "deeds", "deed", "name"]
def b_push_of : S := (.seq (.ite (.or (.app fNot (.cons (.app fIsi (.cons (.loc 0) (.cons (.con (.ty "tuple")) .nil))) .nil)) (.app fNot (.cons (.app F_are_names (.cons (.loc 0) (.cons (.con (.int 1)) (.cons (.app fLen (.cons (.loc 0) .nil)) .nil)))) .nil)))
.dead
.skip)
(.seq (.ite (.or (.app fNot (.cons (.app fIsi (.cons (.loc 1) (.cons (.con (.ty "tuple")) .nil))) .nil)) (.app fNot (.cons (.ofl gAll (.lc (.val (.loc 1)) (.nm 2) [2] .nil (.app F_is_deed (.cons (.loc 2) .nil)))) .nil)))
.dead
.skip)
(.seq (.ite (.app fNot (.cons (.ofl gAll (.lc2 (.val (.loc 1)) (.nm 2) [2, 3] .nil (.val (.app fSlL (.cons (.loc 2) (.cons (.con (.int 1)) .nil)))) (.nm 3) [3] .nil (.app fIn (.cons (.loc 3) (.cons (.loc 0) .nil))))) .nil))
.dead
.skip)
(.ret (.app F_raw_push (.cons (.loc 0) (.cons (.loc 1) .nil)))))))
def F_push_of : Fn := runF 2 4 b_push_of
-- source_number: PgPushes
-- raw_pushed: PgPushes
-- pushed: PgPushes
-- raw_after: PgPushes
-- one_more: PgPushes
-- _law_pot: LwDraw
-- _law_draw: LwDraw
-- _law_any: LwDraw
-- _law_mixed: LwDraw

-- _law_deed('_law_pot_here', '_law_names')  slots ['_law_pot_here', '_law_names', '_law_kind', '_law_name']  level 3
def N_law_deed : List Str := ["_law_pot_here", "_law_names", "_law_kind", "_law_name"]
def b_law_deed : S := (.seq (.set 2 (.app F_law_draw (.cons (.loc 0) (.cons (.con (.int 5)) .nil))))
(.seq (.set 3 (.app F_law_any (.cons (.loc 0) (.cons (.loc 1) .nil))))
(.seq (.ite (.app fEq (.cons (.loc 2) (.cons (.con (.int 0)) .nil)))
(.ret (.app fTup (.cons (.con (.str "zero")) (.cons (.loc 3) .nil))))
.skip)
(.ret (.ite (.app fLt (.cons (.loc 2) (.cons (.con (.int 3)) .nil))) (.app fTup (.cons (.con (.str "copy")) (.cons (.loc 3) (.cons (.app F_law_any (.cons (.loc 0) (.cons (.loc 1) .nil))) .nil)))) (.app fTup (.cons (.con (.str "more")) (.cons (.loc 3) .nil))))))))
def F_law_deed : Fn := runF 2 4 b_law_deed

-- _law_wheel('_law_pot_here', '_law_names')  slots ['_law_pot_here', '_law_names', '_law_line', '_law_inside', '_law_at']  level 3
def N_law_wheel : List Str := ["_law_pot_here", "_law_names", "_law_line", "_law_inside", "_law_at"]
def b_law_wheel : S := (.seq (.set 2 (.app fSlH (.cons (.app F_law_mixed (.cons (.loc 0) (.cons (.loc 1) .nil))) (.cons (.app fAdd (.cons (.con (.int 3)) (.cons (.app F_law_draw (.cons (.loc 0) (.cons (.con (.int 2)) .nil))) .nil))) .nil))))
(.seq (.set 3 (.ofl gLst (.dsp (.cons (.app fTup (.cons (.con (.str "copy")) (.cons (.app fIx (.cons (.loc 2) (.cons (.app fNeg (.cons (.con (.int 1)) .nil)) .nil))) (.cons (.app fIx (.cons (.loc 2) (.cons (.app fNeg (.cons (.con (.int 2)) .nil)) .nil))) .nil)))) .nil))))
(.seq (.for (.rng (.cons (.app fSub (.cons (.app fLen (.cons (.loc 2) .nil)) (.cons (.con (.int 2)) .nil))) (.cons (.con (.int 0)) (.cons (.app fNeg (.cons (.con (.int 1)) .nil)) .nil)))) (.nm 4)
(.ex (.mth isLst mAppend (.loc 3) (.cons (.app fTup (.cons (.con (.str "copy")) (.cons (.app fIx (.cons (.loc 2) (.cons (.loc 4) .nil))) (.cons (.app fIx (.cons (.loc 2) (.cons (.app fSub (.cons (.loc 4) (.cons (.con (.int 1)) .nil))) .nil))) .nil)))) .nil))))
(.ret (.app fTupD (.cons (.app fAdd (.cons (.loc 3) (.cons (.ofl gLst (.dsp (.cons (.app fTup (.cons (.con (.str "copy")) (.cons (.app fIx (.cons (.loc 2) (.cons (.con (.int 0)) .nil))) (.cons (.app fIx (.cons (.loc 2) (.cons (.app fNeg (.cons (.con (.int 1)) .nil)) .nil))) .nil)))) (.cons (.app fTup (.cons (.con (.str "more")) (.cons (.app fIx (.cons (.loc 2) (.cons (.app F_law_draw (.cons (.loc 0) (.cons (.app fSub (.cons (.app fLen (.cons (.loc 2) .nil)) (.cons (.con (.int 1)) .nil))) .nil))) .nil))) .nil))) .nil)))) .nil))) .nil))))))
def F_law_wheel : Fn := runF 2 5 b_law_wheel

-- _law_do('_law_numbers', '_law_deed_here')  slots ['_law_numbers', '_law_deed_here']  level 1
def N_law_do : List Str := ["_law_numbers", "_law_deed_here"]
def b_law_do : S := (.ite (.app fEq (.cons (.app fIx (.cons (.loc 1) (.cons (.con (.int 0)) .nil))) (.cons (.con (.str "zero")) .nil)))
(.asg (.sub (.loc 0) (.app fIx (.cons (.loc 1) (.cons (.con (.int 1)) .nil)))) (.con (.int 0)))
(.ite (.app fEq (.cons (.app fIx (.cons (.loc 1) (.cons (.con (.int 0)) .nil))) (.cons (.con (.str "copy")) .nil)))
(.asg (.sub (.loc 0) (.app fIx (.cons (.loc 1) (.cons (.con (.int 1)) .nil)))) (.app fIx (.cons (.loc 0) (.cons (.app fIx (.cons (.loc 1) (.cons (.con (.int 2)) .nil))) .nil))))
(.asg (.sub (.loc 0) (.app fIx (.cons (.loc 1) (.cons (.con (.int 1)) .nil)))) (.app fAdd (.cons (.app fIx (.cons (.loc 0) (.cons (.app fIx (.cons (.loc 1) (.cons (.con (.int 1)) .nil))) .nil))) (.cons (.con (.int 1)) .nil))))))
def F_law_do : Fn := runF 2 2 b_law_do
-- _law_is_int: LwDraw
-- _law_push_names: LwPush

-- _law_push_told('_law_told', '_law_due')  slots ['_law_told', '_law_due', '_law_name', '_law_pair']  level 2
def N_law_push_told : List Str := ["_law_told", "_law_due", "_law_name", "_law_pair"]
def b_law_push_told : S := (.seq (.ite (.or (.app fNot (.cons (.app fIsi (.cons (.loc 0) (.cons (.con (.ty "dict")) .nil))) .nil)) (.app fNe (.cons (.loc 0) (.cons (.loc 1) .nil))))
(.ret (.con (.bl false)))
.skip)
(.seq (.for (.val (.loc 0)) (.nm 2)
(.seq (.set 3 (.app fIx (.cons (.loc 0) (.cons (.loc 2) .nil))))
(.ite (.or (.app fNot (.cons (.app fIsi (.cons (.loc 3) (.cons (.con (.ty "tuple")) .nil))) .nil)) (.app fNot (.cons (.app F_law_is_int (.cons (.app fIx (.cons (.loc 3) (.cons (.con (.int 1)) .nil))) .nil)) .nil)))
(.ret (.con (.bl false)))
.skip)))
(.ret (.con (.bl true)))))
def F_law_push_told : Fn := runF 2 4 b_law_push_told
-- _law_great: LwPush

-- _law_push_by('_law_names', '_law_deeds')  slots ['_law_names', '_law_deeds', '_law_far', '_law_numbers', '_law_at', '_law_name', '_law_deed_here', '_law_found']  level 2
def N_law_push_by : List Str := ["_law_names", "_law_deeds", "_law_far", "_law_numbers", "_law_at", "_law_name", "_law_deed_here", "_law_found"]
def b_law_push_by : S := (.seq (.set 2 (.app fPow (.cons (.con (.int 10)) (.cons (.con (.int 4)) .nil))))
(.seq (.set 3 (.app fDic0 .nil))
(.seq (.for (.enu (.loc 0)) (.tp [4, 5])
(.asg (.sub (.loc 3) (.loc 5)) (.app fMul (.cons (.app fAdd (.cons (.loc 4) (.cons (.con (.int 1)) .nil))) (.cons (.loc 2) .nil)))))
(.seq (.for (.val (.loc 1)) (.nm 6)
(.ex (.app F_law_do (.cons (.loc 3) (.cons (.loc 6) .nil)))))
(.seq (.set 7 (.app fDic0 .nil))
(.seq (.for (.val (.loc 0)) (.nm 5)
(.seq (.set 4 (.app fDiv (.cons (.app fIx (.cons (.loc 3) (.cons (.loc 5) .nil))) (.cons (.loc 2) .nil))))
(.asg (.sub (.loc 7) (.loc 5)) (.app fTup (.cons (.ite (.app fEq (.cons (.loc 4) (.cons (.con (.int 0)) .nil))) (.con .non) (.app fIx (.cons (.loc 0) (.cons (.app fSub (.cons (.loc 4) (.cons (.con (.int 1)) .nil))) .nil)))) (.cons (.app fSub (.cons (.app fIx (.cons (.loc 3) (.cons (.loc 5) .nil))) (.cons (.app fMul (.cons (.loc 4) (.cons (.loc 2) .nil))) .nil))) .nil))))))
(.ret (.loc 7))))))))
def F_law_push_by : Fn := runF 2 8 b_law_push_by

-- law('_law_script',)  slots ['_law_script', '_law_pot_here', '_law_again', '_law_names', '_law_deeds', '_law_told', '_law_numbers', '_law_name', '_law_kept', '_law_due', '_law_deed_here', '_law_at', '_law_k']  level 6
def N_law : List Str := ["_law_script", "_law_pot_here", "_law_again", "_law_names", "_law_deeds", "_law_told", "_law_numbers", "_law_name", "_law_kept", "_law_due", "_law_deed_here", "_law_at", "_law_k"]
def b_law : S := (.seq (.set 1 (.app F_law_pot (.cons (.loc 0) .nil)))
(.seq (.for (.rng (.cons (.con (.int 4)) .nil)) (.nm 2)
(.seq (.set 3 (.app F_law_push_names (.cons (.loc 1) .nil)))
(.seq (.set 4 (.ofl gLst (.lc (.rng (.cons (.app F_law_draw (.cons (.loc 1) (.cons (.ixl (.dsp (.cons (.con (.int 4)) (.cons (.con (.int 12)) (.cons (.con (.int 41)) .nil)))) (.app F_law_draw (.cons (.loc 1) (.cons (.con (.int 3)) .nil)))) .nil))) .nil)) (.nm 12) [12] .nil (.app F_law_deed (.cons (.loc 1) (.cons (.loc 3) .nil))))))
(.seq (.ite (.and (.app fGt (.cons (.app fLen (.cons (.loc 3) .nil)) (.cons (.con (.int 3)) .nil))) (.app fEq (.cons (.app F_law_draw (.cons (.loc 1) (.cons (.con (.int 3)) .nil))) (.cons (.con (.int 0)) .nil))))
(.set 4 (.app fAdd (.cons (.loc 4) (.cons (.ofl gLst (.app flList (.cons (.app F_law_wheel (.cons (.loc 1) (.cons (.loc 3) .nil))) .nil))) .nil))))
.skip)
(.seq (.set 4 (.app fTupD (.cons (.loc 4) .nil)))
(.seq (.set 5 (.app F_push_of (.cons (.loc 3) (.cons (.loc 4) .nil))))
(.seq (.ite (.app fNot (.cons (.app F_law_push_told (.cons (.loc 5) (.cons (.app F_law_push_by (.cons (.loc 3) (.cons (.loc 4) .nil))) .nil))) .nil))
(.ret (.con (.bl false)))
.skip)
(.seq (.set 6 (.app fDic0 .nil))
(.seq (.for (.val (.loc 3)) (.nm 7)
(.asg (.sub (.loc 6) (.loc 7)) (.app F_law_great (.cons (.loc 1) .nil))))
(.seq (.set 8 (.app fDict (.cons (.loc 6) .nil)))
(.seq (.set 9 (.app fDict (.cons (.loc 6) .nil)))
(.seq (.for (.val (.loc 4)) (.nm 10)
(.ex (.app F_law_do (.cons (.loc 9) (.cons (.loc 10) .nil)))))
(.seq (.ite (.or (.app fNe (.cons (.app F_pushed (.cons (.loc 5) (.cons (.loc 6) .nil))) (.cons (.loc 9) .nil))) (.app fNe (.cons (.loc 6) (.cons (.loc 8) .nil))))
(.ret (.con (.bl false)))
.skip)
(.seq (.set 11 (.app F_law_draw (.cons (.loc 1) (.cons (.app fAdd (.cons (.app fLen (.cons (.loc 4) .nil)) (.cons (.con (.int 1)) .nil))) .nil))))
(.seq (.ite (.app fNe (.cons (.app F_one_more (.cons (.app F_push_of (.cons (.loc 3) (.cons (.app fSlH (.cons (.loc 4) (.cons (.loc 11) .nil))) .nil))) (.cons (.app F_push_of (.cons (.loc 3) (.cons (.app fSlL (.cons (.loc 4) (.cons (.loc 11) .nil))) .nil))) .nil))) (.cons (.loc 5) .nil)))
(.ret (.con (.bl false)))
.skip)
(.seq (.ex (.mth isDic mClear (.loc 5) .nil))
(.ite (.app fNe (.cons (.app F_push_of (.cons (.loc 3) (.cons (.loc 4) .nil))) (.cons (.app F_law_push_by (.cons (.loc 3) (.cons (.loc 4) .nil))) .nil)))
(.ret (.con (.bl false)))
.skip)))))))))))))))))
(.ret (.con (.bl true)))))
def F_law : Fn := runF 1 13 b_law
end K24

/-! DdA: deeds, done to pushes and to numbers: plain. -/
namespace Pg
open PySem L2 Den
inductive Dd
  | zero (x : Str)
  | copy (x y : Str)
  | more (x : Str)
def encD : Dd → PV
  | .zero x => .tup [.str "zero", .str x]
  | .copy x y => .tup [.str "copy", .str x, .str y]
  | .more x => .tup [.str "more", .str x]
def Dd.on (ns : List Str) : Dd → Prop
  | .zero x => x ∈ ns
  | .copy x y => x ∈ ns ∧ y ∈ ns
  | .more x => x ∈ ns
abbrev Pf := Str → Option Str × Int
def setF {α : Type} (f : Str → α) (x : Str) (w : α) : Str → α := fun y => if y = x then w else f y
def dof (f : Pf) : Dd → Pf
  | .zero x => setF f x (none, 0)
  | .copy x y => setF f x (f y)
  | .more x => setF f x ((f x).1, (f x).2 + 1)
def don (v : Str → Int) : Dd → Str → Int
  | .zero x => setF v x 0
  | .copy x y => setF v x (v y)
  | .more x => setF v x (v x + 1)
def f0 : Pf := fun x => (some x, 0)
def dofs (f : Pf) (ds : List Dd) : Pf := ds.foldl dof f
def dons (v : Str → Int) (ds : List Dd) : Str → Int := ds.foldl don v
def val (v : Str → Int) (p : Option Str × Int) : Int := match p.1 with
  | none => p.2
  | some s => v s + p.2
def cmp (f : Pf) (p : Option Str × Int) : Option Str × Int := match p.1 with
  | none => (none, p.2)
  | some s => ((f s).1, (f s).2 + p.2)
theorem set_comp {α β : Type} (h : α → β) (f : Str → α) (x : Str) (w : α) : (fun y => h (setF f x w y)) = setF (fun y => h (f y)) x (h w) := by
  funext y
  unfold setF
  split <;> rfl
theorem val_more (v : Str → Int) (p : Option Str × Int) : val v (p.1, p.2 + 1) = val v p + 1 := by
  obtain ⟨o, m⟩ := p
  cases o with
  | none => rfl
  | some s =>
    show v s + (m + 1) = v s + m + 1
    omega
theorem cmp_more (f : Pf) (p : Option Str × Int) : cmp f (p.1, p.2 + 1) = ((cmp f p).1, (cmp f p).2 + 1) := by
  obtain ⟨o, m⟩ := p
  cases o with
  | none => rfl
  | some s =>
    show ((f s).1, (f s).2 + (m + 1)) = ((f s).1, (f s).2 + m + 1)
    rw [Int.add_assoc]
theorem val_do (v : Str → Int) (f : Pf) (d : Dd) : (fun x => val v (dof f d x)) = don (fun x => val v (f x)) d := by
  cases d with
  | zero x => exact set_comp (val v) f x _
  | copy x y => exact set_comp (val v) f x _
  | more x =>
    show (fun y => val v (setF f x ((f x).1, (f x).2 + 1) y)) = setF (fun y => val v (f y)) x (val v (f x) + 1)
    rw [set_comp (val v) f x, val_more]
theorem cmp_do (f g : Pf) (d : Dd) : (fun x => cmp f (dof g d x)) = dof (fun x => cmp f (g x)) d := by
  cases d with
  | zero x => exact set_comp (cmp f) g x _
  | copy x y => exact set_comp (cmp f) g x _
  | more x =>
    show (fun y => cmp f (setF g x ((g x).1, (g x).2 + 1) y)) = setF (fun y => cmp f (g y)) x ((cmp f (g x)).1, (cmp f (g x)).2 + 1)
    rw [set_comp (cmp f) g x, cmp_more]
theorem val_dos (v : Str → Int) : ∀ (ds : List Dd) (f : Pf), (fun x => val v (dofs f ds x)) = dons (fun x => val v (f x)) ds
  | [], _ => rfl
  | d :: ds, f => by
    show (fun x => val v (dofs (dof f d) ds x)) = dons (don (fun x => val v (f x)) d) ds
    rw [val_dos v ds (dof f d), val_do]
theorem cmp_dos (f : Pf) : ∀ (ds : List Dd) (g : Pf), (fun x => cmp f (dofs g ds x)) = dofs (fun x => cmp f (g x)) ds
  | [], _ => rfl
  | d :: ds, g => by
    show (fun x => cmp f (dofs (dof g d) ds x)) = dofs (dof (fun x => cmp f (g x)) d) ds
    rw [cmp_dos f ds (dof g d), cmp_do]
theorem val_f0 (v : Str → Int) : (fun x => val v (f0 x)) = v := by
  funext x
  show v x + 0 = v x
  omega
theorem cmp_f0 (f : Pf) : (fun x => cmp f (f0 x)) = f := by
  funext x
  show ((f x).1, (f x).2 + 0) = f x
  rw [Int.add_zero]
/-- what numbers become by a push is what they become by its deeds -/
theorem val_push (v : Str → Int) (ds : List Dd) (x : Str) : val v (dofs f0 ds x) = dons v ds x := by
  have := val_dos v ds f0
  rw [val_f0] at this
  exact congrFun this x
theorem cmp_push (a b : List Dd) (x : Str) : cmp (dofs f0 a) (dofs f0 b x) = dofs f0 (a ++ b) x := by
  have := cmp_dos (dofs f0 a) b f0
  rw [cmp_f0] at this
  have e := congrFun this x
  rw [e]
  unfold dofs
  rw [List.foldl_append]
def psF (ns : List Str) (f : Pf) : Ps := ns.map fun x => (x, f x)
theorem keys_psF {ns : List Str} {f : Pf} : keys (psF ns f) = ns := by
  unfold psF keys
  rw [List.map_map]
  exact List.map_id ns
structure Pok (ns : List Str) (B : Int) (f : Pf) : Prop where
  src : ∀ x s, x ∈ ns → (f x).1 = some s → s ∈ ns
  mo : ∀ x, x ∈ ns → 0 ≤ (f x).2 ∧ (f x).2 ≤ B
theorem Pok.do {ns : List Str} {B : Int} {f : Pf} (h : Pok ns B f) (hB : 0 ≤ B) {d : Dd} (on : d.on ns) : Pok ns (B + 1) (dof f d) := by
  have up : ∀ {x : Str} {w : Option Str × Int}, (∀ s, w.1 = some s → s ∈ ns) → 0 ≤ w.2 → w.2 ≤ B + 1 → Pok ns (B + 1) (setF f x w) := fun {x w} a b c => by
    refine ⟨fun y s hy e => ?_, fun y hy => ?_⟩
    · unfold setF at e
      split at e
      · exact a s e
      · exact h.src y s hy e
    · unfold setF
      split
      · exact ⟨b, c⟩
      · have := h.mo y hy
        omega
  cases d with
  | zero x => exact up (fun s e => nomatch e) (Int.le_refl _) (by show (0 : Int) ≤ B + 1; omega)
  | copy x y =>
    have := h.mo y on.2
    exact up (fun s e => h.src y s on.2 e) this.1 (by omega)
  | more x =>
    have := h.mo x on
    exact up (fun s e => h.src x s on e) (by show 0 ≤ (f x).2 + 1; omega) (by show (f x).2 + 1 ≤ B + 1; omega)
theorem pok_from {ns : List Str} : ∀ {ds : List Dd} {B : Int} {f : Pf}, 0 ≤ B → Pok ns B f → (∀ d ∈ ds, d.on ns) → Pok ns (B + ds.length) (dofs f ds)
  | [], B, f, _, h, _ => by
    show Pok ns (B + ((0 : Nat) : Int)) f
    simpa using h
  | d :: ds, B, f, hB, h, on => by
    have := pok_from (ds := ds) (B := B + 1) (by omega) (h.do hB (on d (by simp))) fun e he => on e (by simp [he])
    have e : B + ((d :: ds).length : Nat) = B + 1 + (ds.length : Nat) := by
      rw [List.length_cons]
      omega
    rw [e]
    exact this
theorem pok_dos {ns : List Str} {ds : List Dd} (on : ∀ d ∈ ds, d.on ns) : Pok ns (ds.length : Nat) (dofs f0 ds) := by
  have := pok_from (ds := ds) (f := f0) (ns := ns) (Int.le_refl 0) ⟨fun x s hx e => by cases e; exact hx, fun x _ => ⟨Int.le_refl _, Int.le_refl _⟩⟩ on
  rw [Int.zero_add] at this
  exact this
theorem gd_psF {ns : List Str} {B : Int} {f : Pf} (nd : ns.Nodup) (nm : ∀ x ∈ ns, x ∈ names8) (ne : ns ≠ []) (h : Pok ns B f) : Gd (psF ns f) := by
  refine ⟨by rw [keys_psF]; exact nm, by rw [keys_psF]; exact nd, fun q hq s hs => ?_, fun q hq => ?_, fun e => ne ?_⟩
  · obtain ⟨x, hx, rfl⟩ := List.mem_map.mp hq
    rw [keys_psF]
    exact h.src x s hx hs
  · obtain ⟨x, hx, rfl⟩ := List.mem_map.mp hq
    exact (h.mo x hx).1
  · exact List.map_eq_nil_iff.mp e
theorem put_map {β : Type} {en : β → PV} {x : Str} {w : β} {f : Str → β} : ∀ {ns : List Str}, x ∈ ns → putP (.inr x) (en w) (ns.map fun y => ((.inr y : Key), en (f y))) = ns.map fun y => ((.inr y : Key), en (setF f x w y)) := fun {ns} hx => by
  unfold putP
  have any : ((ns.map fun y => ((.inr y : Key), en (f y))).any fun p => decide (p.1 = (.inr x : Key))) = true := List.any_eq_true.mpr ⟨_, List.mem_map.mpr ⟨x, hx, rfl⟩, by simp⟩
  rw [if_pos any, List.map_map]
  refine List.map_congr_left fun y _ => ?_
  show (if (.inr y : Key) = .inr x then ((.inr y : Key), en w) else ((.inr y : Key), en (f y))) = _
  unfold setF
  by_cases h : y = x
  · subst h
    rw [if_pos rfl, if_pos rfl]
  · rw [if_neg h, if_neg fun e => h (Sum.inr.inj e)]
theorem enc_psF {ns : List Str} {f : Pf} : encP (psF ns f) = ns.map fun y => ((.inr y : Key), encV (f y)) := by
  unfold encP psF
  rw [List.map_map]
  rfl
theorem put_psF {ns : List Str} {f : Pf} {x : Str} {w : Option Str × Int} (hx : x ∈ ns) : putP (.inr x) (encV w) (encP (psF ns f)) = encP (psF ns (setF f x w)) := by
  rw [enc_psF, enc_psF]
  exact put_map hx
theorem put_encN {ns : List Str} {v : Str → Int} {x : Str} {i : Int} (hx : x ∈ ns) : putP (.inr x) (.int i) (encN ns v) = encN ns (setF v x i) := put_map (en := PV.int) (w := i) (f := v) hx
theorem encN_congr {ns : List Str} {v w : Str → Int} (h : ∀ x ∈ ns, v x = w x) : encN ns v = encN ns w := List.map_congr_left fun x hx => by rw [h x hx]
theorem nxt_psF {ns : List Str} {f : Pf} {x : Str} (hx : x ∈ ns) : nxt (psF ns f) x = (f x).1 := by
  unfold nxt psF
  rw [fnd_map hx]
  rfl
theorem more_psF {ns : List Str} {f : Pf} {x : Str} (hx : x ∈ ns) : more (psF ns f) x = (f x).2 := by
  unfold more psF
  rw [fnd_map hx]
  rfl
theorem stp_psF {ns : List Str} {f : Pf} {v : Str → Int} {x : Str} (hx : x ∈ ns) : stp (psF ns f) v x = val v (f x) := by
  unfold stp
  rw [nxt_psF hx, more_psF hx]
  unfold val
  cases (f x).1 with
  | none => exact Int.add_zero _
  | some s => exact Int.add_comm _ _
theorem aft_psF {ns : List Str} {B : Int} {f g : Pf} (h : Pok ns B g) : aft (psF ns f) (psF ns g) = psF ns fun x => cmp f (g x) := by
  unfold aft
  show (ns.map fun x => (x, g x)).map _ = _
  rw [List.map_map]
  refine List.map_congr_left fun x hx => ?_
  have hs := h.src x
  show (x, (match (g x).1 with | none => ((none : Option Str), (g x).2) | some s => (nxt (psF ns f) s, more (psF ns f) s + (g x).2))) = (x, cmp f (g x))
  unfold cmp
  cases hg : (g x).1 with
  | none => rfl
  | some s =>
    have := hs s hx hg
    simp only [nxt_psF this, more_psF this]
end Pg

/-! DdB: deeds, walked. -/
namespace K24
open PySem L2 Den Pg Lw
local macro_rules | `(tactic| walk_at "side") => `(tactic| first | assumption | exact List.not_mem_nil | (exact Ne.symm (by assumption)) | (refine nm_one ?_; walk_at "side") | (refine nm_two ?_ ?_ <;> walk_at "side") | (refine nm_cons ?_ ?_ <;> walk_at "side") | omega)
local macro_rules | `(tactic| walk_at "look") => `(tactic| first | assumption | exact New.get (by assumption) | (exact Fr.get (by assumption) (by walk_at "look") (by walk_at "side")) | (exact Fr.get (New.fr (by assumption)) (by walk_at "look") (by walk_at "side")))
local macro_rules | `(tactic| walk_at "d") => `(tactic| first
  | ((with_reducible refine' i_loc ?h ?_); case h => exact rfl)
  | with_reducible refine w_seq.mpr ?_ | with_reducible refine w_set.mpr ?_ | with_reducible refine w_ex.mpr ?_ | with_reducible refine w_ret.mpr ?_ | with_reducible refine w_site.mpr ?_ | with_reducible refine w_asgn.mpr ?_
  | with_reducible refine w_asgs.mpr ?_ | with_reducible refine w_asgT.mpr ?_ | with_reducible refine w_skip.mpr ?_ | with_reducible refine sk_nx ?_ | with_reducible refine sk_ret ?_ | with_reducible refine sk_brk ?_
  | with_reducible refine sk_cont ?_ | with_reducible refine rk_ret ?_ | with_reducible refine rk_nx ?_ | with_reducible refine tk_tup ?_ | with_reducible refine lp_nx ?_ | with_reducible refine lp_cont ?_
  | with_reducible refine lp_brk ?_ | with_reducible refine lp_ret ?_ | with_reducible refine bk_bl ?_ | with_reducible refine w_tnm.mpr ?_ | with_reducible refine w_tsub.mpr ?_ | with_reducible refine w_tnil.mpr ?_
  | with_reducible refine wB_W.mpr ?_ | with_reducible refine w_con.mpr ?_ | with_reducible refine w_app.mpr ?_ | with_reducible refine w_cons.mpr ?_ | with_reducible refine w_nil.mpr ?_ | with_reducible refine w_and.mpr ?_
  | with_reducible refine w_or.mpr ?_ | with_reducible refine w_ite.mpr ?_ | with_reducible refine w_chn.mpr ?_ | with_reducible refine w_mth.mpr ?_ | with_reducible refine w_ofl.mpr ?_ | with_reducible refine w_ixl.mpr ?_
  | with_reducible refine w_dsp.mpr ?_ | with_reducible refine w_map.mpr ?_ | with_reducible refine w_lapp.mpr ?_ | with_reducible refine w_ival.mpr ?_ | with_reducible refine w_irng.mpr ?_ | with_reducible refine w_ienu.mpr ?_
  | with_reducible refine w_iofl.mpr ?_ | with_reducible refine w_izip.mpr ?_ | with_reducible refine w_izip3.mpr ?_ | with_reducible refine zk_tt ?_ | with_reducible refine z3_t ?_ | with_reducible refine i_T ?_
  | with_reducible refine i_F ?_ | with_reducible refine W_add ?_ | with_reducible refine W_sub ?_ | with_reducible refine W_addI ?_ | with_reducible refine W_subI ?_ | with_reducible refine W_neg ?_
  | with_reducible refine W_not ?_ | with_reducible refine W_int ?_ | with_reducible refine W_abs ?_ | with_reducible refine W_lt ?_ | with_reducible refine W_le ?_ | with_reducible refine W_gt ?_
  | with_reducible refine W_ge ?_ | with_reducible refine W_eqI ?_ | with_reducible refine W_neI ?_ | with_reducible refine W_isN ?_ | with_reducible refine W_notN ?_ | with_reducible refine W_tup ?_
  | with_reducible refine W_gTup ?_ | with_reducible refine W_gLen ?_ | with_reducible refine W_lenT ?_ | with_reducible refine W_tupT ?_ | with_reducible refine W_liT ?_ | with_reducible refine W_slHT ?_
  | with_reducible refine W_slLT ?_ | with_reducible refine Wo_srcT ?_ | with_reducible refine W_isiT ?_ | with_reducible refine W_isiI ?_ | with_reducible refine W_isiB ?_ | ((with_reducible refine' W_mul ?h ?_); case h => first | assumption | exact .inr (.inl (by decide)) | exact .inl (by decide) | exact .inl (by omega) | exact .inr (.inl (by omega)))
  | ((with_reducible refine' W_div ?h ?_); case h => first | decide | assumption)
  | ((with_reducible refine' W_mod ?h ?_); case h => first | decide | assumption | omega)
  | ((with_reducible refine' W_pow ?h ?_); case h => decide)
  | ((with_reducible refine' W_ixT ?k ?_); (case k => first | exact atI_0 | exact atI_1 | exact atI_2 | exact atI_3 | assumption))
  | ((with_reducible refine' W_ixL ?h ?k ?_); (case h => walk_at "look"); (case k => first | exact atI_0 | exact atI_1 | exact atI_2 | exact atI_3 | assumption))
  | ((with_reducible refine' W_lenL ?h ?_); case h => walk_at "look")
  | ((with_reducible refine' W_lenD ?h ?_); case h => walk_at "look")
  | ((with_reducible refine' W_tupL ?h ?_); case h => walk_at "look")
  | ((with_reducible refine' W_tupDi ?h ?_); case h => walk_at "look")
  | ((with_reducible refine' W_liL ?h ?_); case h => walk_at "look")
  | ((with_reducible refine' W_liD ?h ?_); case h => walk_at "look")
  | ((with_reducible refine' Wo_srcL ?h ?_); case h => walk_at "look")
  | ((with_reducible refine' W_isiD ?h ?_); case h => walk_at "look")
  | ((with_reducible refine' W_isiL ?h ?_); case h => walk_at "look")
  | ((with_reducible refine' zk_tl ?h ?_); case h => walk_at "look")
  | ((with_reducible refine' zk_lt ?h ?_); case h => walk_at "look")
  | ((with_reducible refine' i_B ?h ?_); case h => first | rfl | assumption | (simp; done))
  | ((with_reducible refine' i_N ?h ?_); case h => first | rfl | assumption | (simp; done))
  | ((with_reducible refine' i_ok ?h ?_); case h => exact isLst_at (by walk_at "look"))
  | ((with_reducible refine' w_lc20 ?h ?_); case h => first | exact rfl | exact lk_list rfl (by walk_at "look"))
  | ((with_reducible refine' w_lc0 ?h ?_); case h => first | exact rfl | exact lk_list rfl (by walk_at "look")))
local macro_rules | `(tactic| walk_at "f") => `(tactic| ((with_reducible refine' w_for0 ?h ?_); case h => first | exact rfl | exact lk_list rfl (by walk_at "look")))

section
variable {st : Store} {P : PV → Store → Prop} {ns : List Str}
theorem eqStr {a b : Str} (ha : okD 60 (.str a) = true) (hb : okD 60 (.str b) = true) (st : Store) : fEq [.str a, .str b] st = some (.bl (decide (a = b)), st) := by
  simp only [fEq, eqB, eqB0, ha, hb, Bool.and_self, if_true, Option.map_some, peq]
theorem okW : ∀ w ∈ (["zero", "copy", "more"] : List Str), okD 60 (.str w) = true := by decide +kernel
theorem eqW {a b : Str} (r : Bool) (ha : a ∈ (["zero", "copy", "more"] : List Str)) (hb : b ∈ (["zero", "copy", "more"] : List Str)) (e : decide (a = b) = r) (st : Store) : fEq [.str a, .str b] st = some (.bl r, st) := by
  rw [eqStr (okW a ha) (okW b hb), e]
theorem eqZ (st : Store) : fEq [.str "zero", .str "zero"] st = some (.bl true, st) := eqW _ (by simp) (by simp) (by decide +kernel) st
theorem eqCZ (st : Store) : fEq [.str "copy", .str "zero"] st = some (.bl false, st) := eqW _ (by simp) (by simp) (by decide +kernel) st
theorem eqMZ (st : Store) : fEq [.str "more", .str "zero"] st = some (.bl false, st) := eqW _ (by simp) (by simp) (by decide +kernel) st
theorem eqCC (st : Store) : fEq [.str "copy", .str "copy"] st = some (.bl true, st) := eqW _ (by simp) (by simp) (by decide +kernel) st
theorem eqZC (st : Store) : fEq [.str "zero", .str "copy"] st = some (.bl false, st) := eqW _ (by simp) (by simp) (by decide +kernel) st
theorem eqMC (st : Store) : fEq [.str "more", .str "copy"] st = some (.bl false, st) := eqW _ (by simp) (by simp) (by decide +kernel) st
theorem W_atF {f : Pf} {x : Str} {n : Nat} (hn : st[n]? = some (.dic false (encP (psF ns f)))) (hx : x ∈ ns) (p : P (encV (f x)) st) : W (fIx [.ref n, .str x] st) P := by
  refine W_at hn (by rw [keys_psF]; exact hx) ?_
  rw [nxt_psF hx, more_psF hx]
  exact p
theorem enc_psF_len {f : Pf} : (encP (psF ns f)).length = ns.length := by rw [enc_psF, List.length_map]
theorem raw_push_ok {ds : List Dd} (nd : ns.Nodup) (l8 : ns.length ≤ 8) (on : ∀ d ∈ ds, d.on ns) (p : ∀ n s, New st n s (.dic false (encP (psF ns (dofs f0 ds)))) → P (.ref n) s) : W (F_raw_push [.tup (encR ns), .tup (ds.map encD)] st) P := by
  unfold F_raw_push
  with_reducible refine W_run ?_ ?_
  · rfl
  unfold b_raw_push
  repeat walk_at "d"
  rw [w_dc, lk_tup (xs := encR ns) rfl]
  show wI _ _ st _
  repeat walk_at "d"
  have ek : encR ns = (ns.map (Sum.inr : Str → Key)).map kP := by rw [List.map_map]; rfl
  have hnd : (([] : List (Key × PV)).map (·.1) ++ ns.map (Sum.inr : Str → Key)).Nodup := by
    have := encN_nd (v := fun _ => 0) nd
    unfold encN at this
    rw [List.map_map] at this
    exact this
  rw [ek]
  refine compD_F (fun s => s = st) (fun k => .tup [kP k, .int 0]) rfl hnd (by simp; omega) (fun x hx => ⟨_, rfl, fun s hs => ?_⟩) fun s hs => ?_
  · subst hs
    repeat walk_at "d"
    refine ⟨rfl, rfl, ?_⟩
    repeat walk_at "d"
    exact ⟨rfl, rfl⟩
  subst hs
  rw [List.nil_append]
  have e0 : ((ns.map (Sum.inr : Str → Key)).map fun x => (x, PV.tup [kP x, .int 0])) = encP (psF ns f0) := by
    rw [enc_psF, List.map_map]
    rfl
  rw [e0]
  show seqK _ _ _ _ (s ++ [.dic false (encP (psF ns f0))])
  have h1 : New s s.length (s ++ [.dic false (encP (psF ns f0))]) (.dic false (encP (psF ns f0))) := .app
  show seqK _ _ _ (List.set _ _ (some (.ref s.length))) (s ++ [.dic false (encP (psF ns f0))])
  generalize s.length = n at h1 ⊢
  generalize s ++ [.dic false (encP (psF ns f0))] = s1 at h1 ⊢
  have f1 := h1.fr
  rw [← ek]
  repeat walk_at "d"
  walk_at "f"
  repeat walk_at "d"
  refine for_T (fun j e s2 => ∃ o3 o4 o5 o6, e = [some (.tup (encR ns)), some (.tup (ds.map encD)), some (.ref n), o3, o4, o5, o6] ∧ s2[n]? = some (.dic false (encP (psF ns (dofs f0 (ds.take j))))) ∧ Fr [n] s1 s2)
    ⟨_, _, _, _, rfl, h1.get, .refl⟩ ?_ ?_
  · rintro j x e s2 hx ⟨o3, o4, o5, o6, rfl, hn, f2⟩
    rw [List.getElem?_map] at hx
    cases hd : ds[j]? with
    | none => simp [hd] at hx
    | some d =>
      rw [hd] at hx
      have : encD d = x := by simpa using hx
      subst this
      have don := on d (List.mem_of_getElem? hd)
      have et : dofs f0 (ds.take (j + 1)) = dof (dofs f0 (ds.take j)) d := by
        unfold dofs
        rw [take_snoc hd, List.foldl_append]
        rfl
      generalize dofs f0 (ds.take j) = f at hn et
      refine ⟨_, rfl, ?_⟩
      have big : (encP (psF ns f)).length < 16000000 := by rw [enc_psF_len]; omega
      cases d with
      | zero x =>
        unfold encD
        repeat walk_at "d"
        refine W_of (eqZ _) ?_
        repeat walk_at "d"
        refine nSetD hn rfl big fun s3 h3 f3 => ?_
        rw [show PV.tup [.non, .int 0] = encV (none, 0) from rfl, put_psF (show x ∈ ns from don)] at h3
        exact ⟨_, _, _, _, rfl, by rw [et]; exact h3, f2.trans f3⟩
      | copy x y =>
        unfold encD
        repeat walk_at "d"
        refine W_of (eqCZ _) ?_
        repeat walk_at "d"
        refine W_of (eqCC _) ?_
        repeat walk_at "d"
        refine W_atF hn don.2 ?_
        repeat walk_at "d"
        refine nSetD hn rfl big fun s3 h3 f3 => ?_
        rw [put_psF don.1] at h3
        exact ⟨_, _, _, _, rfl, by rw [et]; exact h3, f2.trans f3⟩
      | more x =>
        unfold encD
        repeat walk_at "d"
        refine W_of (eqMZ _) ?_
        repeat walk_at "d"
        refine W_of (eqMC _) ?_
        repeat walk_at "d"
        refine W_atF hn (show x ∈ ns from don) ?_
        unfold encV
        repeat walk_at "d"
        refine nSetD hn rfl big fun s3 h3 f3 => ?_
        rw [show PV.tup [encS (f x).1, .int ((f x).2 + 1)] = encV ((f x).1, (f x).2 + 1) from rfl, put_psF (show x ∈ ns from don)] at h3
        exact ⟨_, _, _, _, rfl, by rw [et]; exact h3, f2.trans f3⟩
  · rintro e s2 ⟨o3, o4, o5, o6, rfl, hn, f2⟩
    rw [List.length_map, List.take_length] at hn
    repeat walk_at "d"
    exact p n s2 ⟨hn, h1.le, by have := h1.lt; have := f2.le; omega, ((f1.mono (by simp)).trans f2).new h1.le⟩
theorem law_do_ok {v : Str → Int} {d : Dd} {n : Nat} (l8 : ns.length ≤ 8) (on : d.on ns) (hn : st[n]? = some (.dic false (encN ns v))) (p : ∀ s, s[n]? = some (.dic false (encN ns (don v d))) → Fr [n] st s → P .non s) : W (F_law_do [.ref n, encD d] st) P := by
  have big : (encN ns v).length < 16000000 := by rw [encN_len]; omega
  unfold F_law_do
  with_reducible refine W_run ?_ ?_
  · rfl
  unfold b_law_do
  cases d with
  | zero x =>
    unfold encD
    repeat walk_at "d"
    refine W_of (eqZ _) ?_
    repeat walk_at "d"
    refine nSetD hn rfl big fun s3 h3 f3 => ?_
    rw [put_encN (show x ∈ ns from on)] at h3
    repeat walk_at "d"
    exact p s3 h3 f3
  | copy x y =>
    unfold encD
    repeat walk_at "d"
    refine W_of (eqCZ _) ?_
    repeat walk_at "d"
    refine W_of (eqCC _) ?_
    repeat walk_at "d"
    refine W_atN hn on.2 ?_
    repeat walk_at "d"
    refine nSetD hn rfl big fun s3 h3 f3 => ?_
    rw [put_encN on.1] at h3
    repeat walk_at "d"
    exact p s3 h3 f3
  | more x =>
    unfold encD
    repeat walk_at "d"
    refine W_of (eqMZ _) ?_
    repeat walk_at "d"
    refine W_of (eqMC _) ?_
    repeat walk_at "d"
    refine W_atN hn (show x ∈ ns from on) ?_
    repeat walk_at "d"
    refine nSetD hn rfl big fun s3 h3 f3 => ?_
    rw [put_encN (show x ∈ ns from on)] at h3
    repeat walk_at "d"
    exact p s3 h3 f3
end
end K24

/-! DdC: push_of, walked. -/
namespace K24
open PySem L2 Den Pg Lw
local macro_rules | `(tactic| walk_at "side") => `(tactic| first | assumption | exact List.not_mem_nil | (exact Ne.symm (by assumption)) | (refine nm_one ?_; walk_at "side") | (refine nm_two ?_ ?_ <;> walk_at "side") | (refine nm_cons ?_ ?_ <;> walk_at "side") | omega)
local macro_rules | `(tactic| walk_at "look") => `(tactic| first | assumption | exact New.get (by assumption) | (exact Fr.get (by assumption) (by walk_at "look") (by walk_at "side")) | (exact Fr.get (New.fr (by assumption)) (by walk_at "look") (by walk_at "side")))
local macro_rules | `(tactic| walk_at "d") => `(tactic| first
  | ((with_reducible refine' i_loc ?h ?_); case h => exact rfl)
  | with_reducible refine w_seq.mpr ?_ | with_reducible refine w_set.mpr ?_ | with_reducible refine w_ex.mpr ?_ | with_reducible refine w_ret.mpr ?_ | with_reducible refine w_site.mpr ?_ | with_reducible refine w_asgn.mpr ?_
  | with_reducible refine w_asgs.mpr ?_ | with_reducible refine w_asgT.mpr ?_ | with_reducible refine w_skip.mpr ?_ | with_reducible refine sk_nx ?_ | with_reducible refine sk_ret ?_ | with_reducible refine sk_brk ?_
  | with_reducible refine sk_cont ?_ | with_reducible refine rk_ret ?_ | with_reducible refine rk_nx ?_ | with_reducible refine tk_tup ?_ | with_reducible refine lp_nx ?_ | with_reducible refine lp_cont ?_
  | with_reducible refine lp_brk ?_ | with_reducible refine lp_ret ?_ | with_reducible refine bk_bl ?_ | with_reducible refine w_tnm.mpr ?_ | with_reducible refine w_tsub.mpr ?_ | with_reducible refine w_tnil.mpr ?_
  | with_reducible refine wB_W.mpr ?_ | with_reducible refine w_con.mpr ?_ | with_reducible refine w_app.mpr ?_ | with_reducible refine w_cons.mpr ?_ | with_reducible refine w_nil.mpr ?_ | with_reducible refine w_and.mpr ?_
  | with_reducible refine w_or.mpr ?_ | with_reducible refine w_ite.mpr ?_ | with_reducible refine w_chn.mpr ?_ | with_reducible refine w_mth.mpr ?_ | with_reducible refine w_ofl.mpr ?_ | with_reducible refine w_ixl.mpr ?_
  | with_reducible refine w_dsp.mpr ?_ | with_reducible refine w_map.mpr ?_ | with_reducible refine w_lapp.mpr ?_ | with_reducible refine w_ival.mpr ?_ | with_reducible refine w_irng.mpr ?_ | with_reducible refine w_ienu.mpr ?_
  | with_reducible refine w_iofl.mpr ?_ | with_reducible refine w_izip.mpr ?_ | with_reducible refine w_izip3.mpr ?_ | with_reducible refine zk_tt ?_ | with_reducible refine z3_t ?_ | with_reducible refine i_T ?_
  | with_reducible refine i_F ?_ | with_reducible refine W_add ?_ | with_reducible refine W_sub ?_ | with_reducible refine W_addI ?_ | with_reducible refine W_subI ?_ | with_reducible refine W_neg ?_
  | with_reducible refine W_not ?_ | with_reducible refine W_int ?_ | with_reducible refine W_abs ?_ | with_reducible refine W_lt ?_ | with_reducible refine W_le ?_ | with_reducible refine W_gt ?_
  | with_reducible refine W_ge ?_ | with_reducible refine W_eqI ?_ | with_reducible refine W_neI ?_ | with_reducible refine W_isN ?_ | with_reducible refine W_notN ?_ | with_reducible refine W_tup ?_
  | with_reducible refine W_gTup ?_ | with_reducible refine W_gLen ?_ | with_reducible refine W_lenT ?_ | with_reducible refine W_tupT ?_ | with_reducible refine W_liT ?_ | with_reducible refine W_slHT ?_
  | with_reducible refine W_slLT ?_ | with_reducible refine Wo_srcT ?_ | with_reducible refine W_isiT ?_ | with_reducible refine W_isiI ?_ | with_reducible refine W_isiB ?_ | ((with_reducible refine' W_mul ?h ?_); case h => first | assumption | exact .inr (.inl (by decide)) | exact .inl (by decide) | exact .inl (by omega) | exact .inr (.inl (by omega)))
  | ((with_reducible refine' W_div ?h ?_); case h => first | decide | assumption)
  | ((with_reducible refine' W_mod ?h ?_); case h => first | decide | assumption | omega)
  | ((with_reducible refine' W_pow ?h ?_); case h => decide)
  | ((with_reducible refine' W_ixT ?k ?_); (case k => first | exact atI_0 | exact atI_1 | exact atI_2 | exact atI_3 | assumption))
  | ((with_reducible refine' W_ixL ?h ?k ?_); (case h => walk_at "look"); (case k => first | exact atI_0 | exact atI_1 | exact atI_2 | exact atI_3 | assumption))
  | ((with_reducible refine' W_lenL ?h ?_); case h => walk_at "look")
  | ((with_reducible refine' W_lenD ?h ?_); case h => walk_at "look")
  | ((with_reducible refine' W_tupL ?h ?_); case h => walk_at "look")
  | ((with_reducible refine' W_tupDi ?h ?_); case h => walk_at "look")
  | ((with_reducible refine' W_liL ?h ?_); case h => walk_at "look")
  | ((with_reducible refine' W_liD ?h ?_); case h => walk_at "look")
  | ((with_reducible refine' Wo_srcL ?h ?_); case h => walk_at "look")
  | ((with_reducible refine' W_isiD ?h ?_); case h => walk_at "look")
  | ((with_reducible refine' W_isiL ?h ?_); case h => walk_at "look")
  | ((with_reducible refine' zk_tl ?h ?_); case h => walk_at "look")
  | ((with_reducible refine' zk_lt ?h ?_); case h => walk_at "look")
  | ((with_reducible refine' i_B ?h ?_); case h => first | rfl | assumption | (simp; done))
  | ((with_reducible refine' i_N ?h ?_); case h => first | rfl | assumption | (simp; done))
  | ((with_reducible refine' i_ok ?h ?_); case h => exact isLst_at (by walk_at "look"))
  | ((with_reducible refine' w_lc20 ?h ?_); case h => first | exact rfl | exact lk_list rfl (by walk_at "look"))
  | ((with_reducible refine' w_lc0 ?h ?_); case h => first | exact rfl | exact lk_list rfl (by walk_at "look")))
local macro_rules | `(tactic| walk_at "f") => `(tactic| ((with_reducible refine' w_for0 ?h ?_); case h => first | exact rfl | exact lk_list rfl (by walk_at "look")))

section
variable {st : Store} {P : PV → Store → Prop} {ns : List Str}
theorem nkR_nodup : ∀ {ks : List Key}, ks.Nodup → nkR ks = ks.length
  | [], _ => rfl
  | k :: r, h => by
    rw [List.nodup_cons] at h
    have : ¬ inK r k = true := fun w => by
      obtain ⟨j, hj, e⟩ := List.any_eq_true.mp w
      have : j = k := by simpa using e
      exact h.1 (this ▸ hj)
    rw [nkR, if_neg this, nkR_nodup h.2, List.length_cons]
theorem keysP_encR : ∀ ns : List Str, keysP (encR ns) = some (ns.map (Sum.inr : Str → Key))
  | [] => rfl
  | x :: ns => by
    show (Den.keyOf (.str x)).bind _ = _
    show ((keysP (encR ns)).map ((.inr x : Key) :: ·)) = _
    rw [keysP_encR ns]
    rfl
theorem W_lenSet (nd : ns.Nodup) (l8 : ns.length ≤ 8) (p : P (.int (ns.length : Nat)) st) : W (fLenSet [.tup (encR ns)] st) P := by
  have hnd : (ns.map (Sum.inr : Str → Key)).Nodup := by
    have := encN_nd (v := fun _ => 0) nd
    unfold encN at this
    rw [List.map_map] at this
    exact this
  have e : nk (ns.map (Sum.inr : Str → Key)) = ns.length := by
    unfold nk
    rw [nkR_nodup (by unfold List.Nodup at hnd ⊢; rw [List.pairwise_reverse]; exact hnd.imp fun h => h.symm), List.length_reverse, List.length_map]
  refine W_of ?_ p
  simp only [fLenSet, lenSetP, keysP_encR, Option.bind_some]
  rw [if_pos (by rw [List.length_map]; omega), e]
  rfl
theorem are_names_ok (nd : ns.Nodup) (nm : ∀ x ∈ ns, x ∈ names8) (ne : ns ≠ []) (l8 : ns.length ≤ 8) {m : Int} (em : m = ns.length) (p : P (.bl true) st) : W (F_are_names [.tup (encR ns), .int 1, .int m] st) P := by
  have l1 : 0 < ns.length := List.length_pos_iff.mpr ne
  unfold F_are_names
  with_reducible refine W_run ?_ ?_
  · rfl
  unfold b_are_names
  have el : (encR ns).length = ns.length := List.length_map _
  repeat walk_at "d"
  rw [el]
  rw [decide_eq_true (show (1 : Int) ≤ (ns.length : Int) by omega)]
  repeat walk_at "d"
  rw [decide_eq_true (show (ns.length : Int) ≤ m by omega)]
  repeat walk_at "d"
  refine comp_M (fun _ => .bl true) rfl (by rw [el]; omega) (fun x hx => ?_) ?_
  · obtain ⟨y, hy, rfl⟩ := List.mem_map.mp hx
    refine ⟨_, rfl, ?_⟩
    repeat walk_at "d"
    refine W_of (is_name_ok (nm y hy) _) ?_
    exact ⟨rfl, rfl⟩
  refine W_allB (by intro x hx; obtain ⟨_, _, e⟩ := List.mem_map.mp hx; exact e.symm) ?_
  repeat walk_at "d"
  refine W_lenSet nd l8 ?_
  repeat walk_at "d"
  rw [el, decide_eq_true rfl]
  exact p
theorem W_isiS {x : Str} (p : P (.bl true) st) : W (fIsi [.str x, .ty "str"] st) P := W_of rfl p
theorem cut1 {x : PV} {xs : List PV} : cutP (x :: xs) (some 1) none = xs := by
  unfold cutP
  rw [show (1 : Int) = ((1 : Nat) : Int) from rfl, HT.sIx_nat, HT.sIx_none]
  have : min 1 (x :: xs).length = 1 := by rw [List.length_cons]; omega
  rw [this]
  show (xs.take ((x :: xs).length - 1)) = xs
  rw [List.length_cons, Nat.add_sub_cancel, List.take_length]
theorem ok_names {x : Str} (h : x ∈ names8) : okD 60 (.str x) = true := strOk8 x h
theorem W_inR {x : Str} {l : List Str} (hx : x ∈ l) (p : P (.bl true) st) : W (fIn [.str x, .tup (encR l)] st) P := W_of (by
  simp only [fIn, inB, flat_encR, flatP, Bool.and_self, if_true, Option.map_some, inP_str, decide_eq_true hx]) p
theorem is_deed_ok {d : Dd} (nm : ∀ x ∈ ns, x ∈ names8) (on : d.on ns) (p : P (.bl true) st) : W (F_is_deed [encD d] st) P := by
  unfold F_is_deed
  with_reducible refine W_run ?_ ?_
  · rfl
  unfold b_is_deed
  cases d with
  | zero x =>
    unfold encD
    repeat walk_at "d"
    refine W_isiS ?_
    repeat walk_at "d"
    rw [cut1]
    refine comp_M (fun _ => .bl true) rfl (by simp) (fun y hy => ?_) ?_
    · have : y = .str x := by simpa using hy
      subst this
      refine ⟨_, rfl, ?_⟩
      repeat walk_at "d"
      refine W_of (is_name_ok (nm x on) _) ?_
      exact ⟨rfl, rfl⟩
    refine W_allB (by simp) ?_
    repeat walk_at "d"
    refine W_of (eqZC _) ?_
    repeat walk_at "d"
    refine W_inR (l := ["zero", "more"]) (by simp) ?_
    repeat walk_at "d"
    exact p
  | copy x y =>
    unfold encD
    repeat walk_at "d"
    refine W_isiS ?_
    repeat walk_at "d"
    rw [cut1]
    refine comp_M (fun _ => .bl true) rfl (by simp) (fun z hz => ?_) ?_
    · have : z = .str x ∨ z = .str y := by simpa using hz
      refine ⟨_, rfl, ?_⟩
      rcases this with rfl | rfl
      · repeat walk_at "d"
        refine W_of (is_name_ok (nm x on.1) _) ?_
        exact ⟨rfl, rfl⟩
      · repeat walk_at "d"
        refine W_of (is_name_ok (nm y on.2) _) ?_
        exact ⟨rfl, rfl⟩
    refine W_allB (by simp) ?_
    repeat walk_at "d"
    refine W_of (eqCC _) ?_
    repeat walk_at "d"
    exact p
  | more x =>
    unfold encD
    repeat walk_at "d"
    refine W_isiS ?_
    repeat walk_at "d"
    rw [cut1]
    refine comp_M (fun _ => .bl true) rfl (by simp) (fun y hy => ?_) ?_
    · have : y = .str x := by simpa using hy
      subst this
      refine ⟨_, rfl, ?_⟩
      repeat walk_at "d"
      refine W_of (is_name_ok (nm x on) _) ?_
      exact ⟨rfl, rfl⟩
    refine W_allB (by simp) ?_
    repeat walk_at "d"
    refine W_of (eqMC _) ?_
    repeat walk_at "d"
    refine W_inR (l := ["zero", "more"]) (by simp) ?_
    repeat walk_at "d"
    exact p
def gD (v : PV) : List PV := match v with
  | .tup (_ :: xs) => xs.map fun _ => .bl true
  | _ => []
theorem gD_len (d : Dd) : (gD (encD d)).length ≤ 2 := by cases d <;> simp [encD, gD]
theorem gD_all : ∀ {ds : List Dd}, ((ds.map encD).flatMap gD).length ≤ 2 * ds.length ∧ ∀ x ∈ (ds.map encD).flatMap gD, x = .bl true
  | [] => by simp
  | d :: ds => by
    have ih := gD_all (ds := ds)
    have := gD_len d
    constructor
    · rw [List.map_cons, List.flatMap_cons, List.length_append, List.length_cons]
      omega
    · intro x hx
      rw [List.map_cons, List.flatMap_cons] at hx
      rcases List.mem_append.mp hx with h | h
      · cases d <;> simp [encD, gD] at h <;> exact h
      · exact ih.2 x h
theorem push_of_ok {ds : List Dd} (nd : ns.Nodup) (nm : ∀ x ∈ ns, x ∈ names8) (ne : ns ≠ []) (l8 : ns.length ≤ 8) (on : ∀ d ∈ ds, d.on ns) (lh : ds.length ≤ 1000) (p : ∀ n s, New st n s (.dic false (encP (psF ns (dofs f0 ds)))) → P (.ref n) s) : W (F_push_of [.tup (encR ns), .tup (ds.map encD)] st) P := by
  unfold F_push_of
  with_reducible refine W_run ?_ ?_
  · rfl
  unfold b_push_of
  have okl := okD_encR nm 60
  repeat walk_at "d"
  refine are_names_ok nd nm ne l8 (by unfold encR; rw [List.length_map]) ?_
  repeat walk_at "d"
  refine comp_M (fun _ => .bl true) rfl (by rw [List.length_map]; omega) (fun x hx => ?_) ?_
  · obtain ⟨d, hd, rfl⟩ := List.mem_map.mp hx
    refine ⟨_, rfl, ?_⟩
    repeat walk_at "d"
    refine is_deed_ok nm (on d hd) ?_
    exact ⟨rfl, rfl⟩
  refine W_allB (by intro x hx; obtain ⟨_, _, e⟩ := List.mem_map.mp hx; exact e.symm) ?_
  repeat walk_at "d"
  refine comp2_M gD rfl (by have := (gD_all (ds := ds)).1; simp only [List.length_nil]; omega) (fun x hx => ?_) ?_
  · obtain ⟨d, hd, rfl⟩ := List.mem_map.mp hx
    refine ⟨_, rfl, fun acc hacc => ?_⟩
    cases d with
    | zero x =>
      unfold encD at hacc ⊢
      rw [W_bind]
      show wI _ _ _ _
      repeat walk_at "d"
      rw [cut1]
      refine comp_In (fun _ => .bl true) hacc (fun z hz => ?_)
      have : z = .str x := by simpa using hz
      subst this
      refine ⟨_, rfl, ?_⟩
      repeat walk_at "d"
      refine W_inR (on _ hd) ?_
      exact ⟨rfl, rfl⟩
    | copy x y =>
      unfold encD at hacc ⊢
      rw [W_bind]
      show wI _ _ _ _
      repeat walk_at "d"
      rw [cut1]
      refine comp_In (fun _ => .bl true) hacc (fun z hz => ?_)
      have : z = .str x ∨ z = .str y := by simpa using hz
      refine ⟨_, rfl, ?_⟩
      rcases this with rfl | rfl
      · repeat walk_at "d"
        refine W_inR (on _ hd).1 ?_
        exact ⟨rfl, rfl⟩
      · repeat walk_at "d"
        refine W_inR (on _ hd).2 ?_
        exact ⟨rfl, rfl⟩
    | more x =>
      unfold encD at hacc ⊢
      rw [W_bind]
      show wI _ _ _ _
      repeat walk_at "d"
      rw [cut1]
      refine comp_In (fun _ => .bl true) hacc (fun z hz => ?_)
      have : z = .str x := by simpa using hz
      subst this
      refine ⟨_, rfl, ?_⟩
      repeat walk_at "d"
      refine W_inR (on _ hd) ?_
      exact ⟨rfl, rfl⟩
  rw [List.nil_append]
  refine W_allB (gD_all (ds := ds)).2 ?_
  repeat walk_at "d"
  exact raw_push_ok nd l8 on p
end
end K24

/-! DdE: the law's own doings with deeds. -/
namespace K24
open PySem L2 Den Pg Lw
local macro_rules | `(tactic| walk_at "side") => `(tactic| first | assumption | exact List.not_mem_nil | (exact Ne.symm (by assumption)) | (refine nm_one ?_; walk_at "side") | (refine nm_two ?_ ?_ <;> walk_at "side") | (refine nm_cons ?_ ?_ <;> walk_at "side") | omega)
local macro_rules | `(tactic| walk_at "look") => `(tactic| first | assumption | exact New.get (by assumption) | (exact Fr.get (by assumption) (by walk_at "look") (by walk_at "side")) | (exact Fr.get (New.fr (by assumption)) (by walk_at "look") (by walk_at "side")))
local macro_rules | `(tactic| walk_at "d") => `(tactic| first
  | ((with_reducible refine' i_loc ?h ?_); case h => exact rfl)
  | with_reducible refine w_seq.mpr ?_ | with_reducible refine w_set.mpr ?_ | with_reducible refine w_ex.mpr ?_ | with_reducible refine w_ret.mpr ?_ | with_reducible refine w_site.mpr ?_ | with_reducible refine w_asgn.mpr ?_
  | with_reducible refine w_asgs.mpr ?_ | with_reducible refine w_asgT.mpr ?_ | with_reducible refine w_skip.mpr ?_ | with_reducible refine sk_nx ?_ | with_reducible refine sk_ret ?_ | with_reducible refine sk_brk ?_
  | with_reducible refine sk_cont ?_ | with_reducible refine rk_ret ?_ | with_reducible refine rk_nx ?_ | with_reducible refine tk_tup ?_ | with_reducible refine lp_nx ?_ | with_reducible refine lp_cont ?_
  | with_reducible refine lp_brk ?_ | with_reducible refine lp_ret ?_ | with_reducible refine bk_bl ?_ | with_reducible refine w_tnm.mpr ?_ | with_reducible refine w_tsub.mpr ?_ | with_reducible refine w_tnil.mpr ?_
  | with_reducible refine wB_W.mpr ?_ | with_reducible refine w_con.mpr ?_ | with_reducible refine w_app.mpr ?_ | with_reducible refine w_cons.mpr ?_ | with_reducible refine w_nil.mpr ?_ | with_reducible refine w_and.mpr ?_
  | with_reducible refine w_or.mpr ?_ | with_reducible refine w_ite.mpr ?_ | with_reducible refine w_chn.mpr ?_ | with_reducible refine w_mth.mpr ?_ | with_reducible refine w_ofl.mpr ?_ | with_reducible refine w_ixl.mpr ?_
  | with_reducible refine w_dsp.mpr ?_ | with_reducible refine w_map.mpr ?_ | with_reducible refine w_lapp.mpr ?_ | with_reducible refine w_ival.mpr ?_ | with_reducible refine w_irng.mpr ?_ | with_reducible refine w_ienu.mpr ?_
  | with_reducible refine w_iofl.mpr ?_ | with_reducible refine w_izip.mpr ?_ | with_reducible refine w_izip3.mpr ?_ | with_reducible refine zk_tt ?_ | with_reducible refine z3_t ?_ | with_reducible refine i_T ?_
  | with_reducible refine i_F ?_ | with_reducible refine W_add ?_ | with_reducible refine W_sub ?_ | with_reducible refine W_addI ?_ | with_reducible refine W_subI ?_ | with_reducible refine W_neg ?_
  | with_reducible refine W_not ?_ | with_reducible refine W_int ?_ | with_reducible refine W_abs ?_ | with_reducible refine W_lt ?_ | with_reducible refine W_le ?_ | with_reducible refine W_gt ?_
  | with_reducible refine W_ge ?_ | with_reducible refine W_eqI ?_ | with_reducible refine W_neI ?_ | with_reducible refine W_isN ?_ | with_reducible refine W_notN ?_ | with_reducible refine W_tup ?_
  | with_reducible refine W_gTup ?_ | with_reducible refine W_gLen ?_ | with_reducible refine W_lenT ?_ | with_reducible refine W_tupT ?_ | with_reducible refine W_liT ?_ | with_reducible refine W_slHT ?_
  | with_reducible refine W_slLT ?_ | with_reducible refine Wo_srcT ?_ | with_reducible refine W_isiT ?_ | with_reducible refine W_isiI ?_ | with_reducible refine W_isiB ?_ | ((with_reducible refine' W_mul ?h ?_); case h => first | assumption | exact .inr (.inl (by decide)) | exact .inl (by decide) | exact .inl (by omega) | exact .inr (.inl (by omega)))
  | ((with_reducible refine' W_div ?h ?_); case h => first | decide | assumption)
  | ((with_reducible refine' W_mod ?h ?_); case h => first | decide | assumption | omega)
  | ((with_reducible refine' W_pow ?h ?_); case h => decide)
  | ((with_reducible refine' W_ixT ?k ?_); (case k => first | exact atI_0 | exact atI_1 | exact atI_2 | exact atI_3 | assumption))
  | ((with_reducible refine' W_ixL ?h ?k ?_); (case h => walk_at "look"); (case k => first | exact atI_0 | exact atI_1 | exact atI_2 | exact atI_3 | assumption))
  | ((with_reducible refine' W_lenL ?h ?_); case h => walk_at "look")
  | ((with_reducible refine' W_lenD ?h ?_); case h => walk_at "look")
  | ((with_reducible refine' W_tupL ?h ?_); case h => walk_at "look")
  | ((with_reducible refine' W_tupDi ?h ?_); case h => walk_at "look")
  | ((with_reducible refine' W_liL ?h ?_); case h => walk_at "look")
  | ((with_reducible refine' W_liD ?h ?_); case h => walk_at "look")
  | ((with_reducible refine' Wo_srcL ?h ?_); case h => walk_at "look")
  | ((with_reducible refine' W_isiD ?h ?_); case h => walk_at "look")
  | ((with_reducible refine' W_isiL ?h ?_); case h => walk_at "look")
  | ((with_reducible refine' zk_tl ?h ?_); case h => walk_at "look")
  | ((with_reducible refine' zk_lt ?h ?_); case h => walk_at "look")
  | ((with_reducible refine' i_B ?h ?_); case h => first | rfl | assumption | (simp; done))
  | ((with_reducible refine' i_N ?h ?_); case h => first | rfl | assumption | (simp; done))
  | ((with_reducible refine' i_ok ?h ?_); case h => exact isLst_at (by walk_at "look"))
  | ((with_reducible refine' w_lc20 ?h ?_); case h => first | exact rfl | exact lk_list rfl (by walk_at "look"))
  | ((with_reducible refine' w_lc0 ?h ?_); case h => first | exact rfl | exact lk_list rfl (by walk_at "look")))
local macro_rules | `(tactic| walk_at "f") => `(tactic| ((with_reducible refine' w_for0 ?h ?_); case h => first | exact rfl | exact lk_list rfl (by walk_at "look")))

theorem idx_at : ∀ {ns : List Str} {j : Nat} {x : Str}, ns.Nodup → ns[j]? = some x → ns.idxOf x = j
  | [], _, _, _, h => by simp at h
  | a :: ns, 0, x, _, h => by
    have : a = x := by simpa using h
    subst this
    simp [List.idxOf_cons]
  | a :: ns, j + 1, x, nd, h => by
    have h' : ns[j]? = some x := by simpa using h
    rw [List.nodup_cons] at nd
    have ne : a ≠ x := fun e => nd.1 (e ▸ List.mem_of_getElem? h')
    have h2 : (a == x) = false := by simpa using ne
    rw [List.idxOf_cons, h2, idx_at nd.2 h']
    rfl
/-- numbers that lie far apart -/
def v0 (ns : List Str) (x : Str) : Int := ((ns.idxOf x + 1 : Nat) : Int) * 10000
theorem psF_snoc {ns : List Str} {x : Str} {f : Pf} : encP (psF (ns ++ [x]) f) = encP (psF ns f) ++ [(.inr x, encV (f x))] := by
  rw [enc_psF, enc_psF, List.map_append]
  rfl
section
variable {st : Store} {P : PV → Store → Prop} {ns : List Str}
theorem law_push_by_ok {ds : List Dd} (nd : ns.Nodup) (l8 : ns.length ≤ 8) (on : ∀ d ∈ ds, d.on ns) (lh : ds.length ≤ 1000) (p : ∀ n s, New st n s (.dic false (encP (psF ns (dofs f0 ds)))) → P (.ref n) s) : W (F_law_push_by [.tup (encR ns), .tup (ds.map encD)] st) P := by
  have pok := pok_dos on
  unfold F_law_push_by
  with_reducible refine W_run ?_ ?_
  · rfl
  unfold b_law_push_by
  have e4 : (10 : Int) ^ (4 : Int).toNat = 10000 := by decide
  repeat walk_at "d"
  rw [e4]
  with_reducible refine nDic0 ?_
  intro n s1 h1
  have f1 := h1.fr
  repeat walk_at "d"
  walk_at "f"
  repeat walk_at "d"
  refine for_T (fun j e s => ∃ o4 o5 o6 o7, e = [some (.tup (encR ns)), some (.tup (ds.map encD)), some (.int 10000), some (.ref n), o4, o5, o6, o7] ∧ s[n]? = some (.dic false (encN (ns.take j) (v0 ns))) ∧ Fr [n] s1 s)
    ⟨_, _, _, _, rfl, h1.get, .refl⟩ ?_ ?_
  · rintro j x e s hx ⟨o4, o5, o6, o7, rfl, hn, f⟩
    obtain ⟨y, hy, rfl⟩ := enumI_get' hx
    unfold encR at hy
    rw [List.getElem?_map] at hy
    cases hj : ns[j]? with
    | none => simp [hj] at hy
    | some a =>
      rw [hj] at hy
      have : PV.str a = y := by simpa using hy
      subst this
      have hv : (((0 + j : Nat) : Int) + 1) * 10000 = v0 ns a := by
        unfold v0
        rw [idx_at nd hj, Nat.zero_add, Int.natCast_add]
        rfl
      refine ⟨_, rfl, ?_⟩
      repeat walk_at "d"
      refine nSetD hn rfl (by rw [encN_len, List.length_take]; omega) fun s2 h2 f2 => ?_
      rw [putN (not_mem_take nd hj) hv, ← take_snoc hj] at h2
      exact ⟨_, _, _, _, rfl, h2, f.trans f2⟩
  · rintro e s ⟨o4, o5, o6, o7, rfl, hn, f⟩
    have el : (enumI 0 (encR ns)).length = ns.length := by rw [enumI_len']; exact List.length_map _
    rw [el, List.take_length] at hn
    have fn : Fr [n] s1 s := f
    repeat walk_at "d"
    walk_at "f"
    repeat walk_at "d"
    refine for_T (fun j e s2 => ∃ o4 o5 o6 o7, e = [some (.tup (encR ns)), some (.tup (ds.map encD)), some (.int 10000), some (.ref n), o4, o5, o6, o7] ∧ s2[n]? = some (.dic false (encN ns (dons (v0 ns) (ds.take j)))) ∧ Fr [n] s1 s2)
      ⟨_, _, _, _, rfl, hn, fn⟩ ?_ ?_
    · rintro j x e s2 hx ⟨o4, o5, o6, o7, rfl, hn2, f2⟩
      rw [List.getElem?_map] at hx
      cases hd : ds[j]? with
      | none => simp [hd] at hx
      | some d =>
        rw [hd] at hx
        have : encD d = x := by simpa using hx
        subst this
        have et : dons (v0 ns) (ds.take (j + 1)) = don (dons (v0 ns) (ds.take j)) d := by
          unfold dons
          rw [take_snoc hd, List.foldl_append]
          rfl
        refine ⟨_, rfl, ?_⟩
        repeat walk_at "d"
        refine law_do_ok l8 (on d (List.mem_of_getElem? hd)) hn2 fun s3 h3 f3 => ?_
        repeat walk_at "d"
        exact ⟨_, _, _, _, rfl, by rw [et]; exact h3, f2.trans f3⟩
    · rintro e s2 ⟨o4, o5, o6, o7, rfl, hn2, f2⟩
      rw [List.length_map, List.take_length] at hn2
      repeat walk_at "d"
      with_reducible refine nDic0 ?_
      intro m s3 h3
      have f3 := h3.fr
      have hn3 : s3[n]? = some (.dic false (encN ns (dons (v0 ns) ds))) := f3.get hn2 (by simp)
      have nm : n ≠ m := by have := at_lt hn2; have := h3.le; omega
      repeat walk_at "d"
      walk_at "f"
      repeat walk_at "d"
      refine for_T (fun j e s4 => ∃ o4 o5 o6, e = [some (.tup (encR ns)), some (.tup (ds.map encD)), some (.int 10000), some (.ref n), o4, o5, o6, some (.ref m)] ∧ s4[n]? = some (.dic false (encN ns (dons (v0 ns) ds))) ∧ s4[m]? = some (.dic false (encP (psF (ns.take j) (dofs f0 ds)))) ∧ Fr [m] s3 s4)
        ⟨_, _, _, rfl, hn3, h3.get, .refl⟩ ?_ ?_
      · rintro j x e s4 hx ⟨o4, o5, o6, rfl, hn4, hm4, f4⟩
        unfold encR at hx
        rw [List.getElem?_map] at hx
        cases hj : ns[j]? with
        | none => simp [hj] at hx
        | some a =>
          rw [hj] at hx
          have : PV.str a = x := by simpa using hx
          subst this
          have ha := List.mem_of_getElem? hj
          have ev : dons (v0 ns) ds a = val (v0 ns) (dofs f0 ds a) := (val_push _ ds a).symm
          have mo := pok.mo a ha
          have sr := pok.src a
          have pn : ∀ z, putP (.inr a) z (encP (psF (ns.take j) (dofs f0 ds))) = encP (psF (ns.take j) (dofs f0 ds)) ++ [(.inr a, z)] := fun z => putP_new (getP_none (by rw [keys_psF]; exact not_mem_take nd hj))
          have big : (encP (psF (ns.take j) (dofs f0 ds))).length < 16000000 := by rw [enc_psF_len, List.length_take]; omega
          have fin : ∀ (z : PV) (s5 : Store), z = encV (dofs f0 ds a) → s5[m]? = some (.dic false (putP (.inr a) z (encP (psF (ns.take j) (dofs f0 ds))))) → s5[m]? = some (.dic false (encP (psF (ns.take (j + 1)) (dofs f0 ds)))) := fun z s5 ez h => by
            rw [h, pn, ez, take_snoc hj, psF_snoc]
          refine ⟨_, rfl, ?_⟩
          repeat walk_at "d"
          refine W_atN hn4 ha ?_
          repeat walk_at "d"
          rw [ev]
          obtain ⟨o, mm, ef⟩ : ∃ o mm, dofs f0 ds a = (o, mm) := ⟨_, _, rfl⟩
          rw [ef] at mo sr fin ⊢
          have m0 : 0 ≤ mm := mo.1
          have m1 : mm ≤ 1000 := Int.le_trans mo.2 (by omega)
          cases o with
          | none =>
            have e5 : val (v0 ns) (none, mm) = mm := rfl
            have e6 : mm / 10000 = 0 := Int.ediv_eq_zero_of_lt m0 (by omega)
            rw [e5]
            repeat walk_at "d"
            rw [e6]
            repeat walk_at "d"
            refine W_atN hn4 ha ?_
            rw [ev, ef, e5]
            repeat walk_at "d"
            refine nSetD hm4 rfl big fun s5 h5 f5 => ?_
            refine ⟨_, _, _, rfl, f5.get hn4 (by simp; omega), fin _ s5 ?_ h5, f4.trans f5⟩
            show PV.tup [.non, .int (mm - 0 * 10000)] = .tup [.non, .int mm]
            rw [Int.zero_mul, Int.sub_zero]
          | some q =>
            have hq : q ∈ ns := sr q ha rfl
            obtain ⟨i, hi⟩ := List.mem_iff_getElem?.mp hq
            have hil : i < ns.length := (List.getElem?_eq_some_iff.mp hi).1
            have e5 : val (v0 ns) (some q, mm) = ((i + 1 : Nat) : Int) * 10000 + mm := by
              show v0 ns q + mm = _
              unfold v0
              rw [idx_at nd hi]
            have e6 : (((i + 1 : Nat) : Int) * 10000 + mm) / 10000 = ((i + 1 : Nat) : Int) := by omega
            rw [e5]
            repeat walk_at "d"
            rw [e6]
            have e8 : ((i + 1 : Nat) : Int) - 1 = ((i : Nat) : Int) := by omega
            have ix : atI (encR ns) (((i + 1 : Nat) : Int) - 1) = some (.str q) := by
              rw [e8]
              refine atI_nat ?_
              unfold encR
              rw [List.getElem?_map, hi]
              rfl
            repeat walk_at "d"
            refine W_atN hn4 ha ?_
            rw [ev, ef, e5]
            repeat walk_at "d"
            refine nSetD hm4 rfl big fun s5 h5 f5 => ?_
            refine ⟨_, _, _, rfl, f5.get hn4 (by simp; omega), fin _ s5 ?_ h5, f4.trans f5⟩
            show PV.tup [.str q, .int (((i + 1 : Nat) : Int) * 10000 + mm - ((i + 1 : Nat) : Int) * 10000)] = .tup [.str q, .int mm]
            have : ((i + 1 : Nat) : Int) * 10000 + mm - ((i + 1 : Nat) : Int) * 10000 = mm := by omega
            rw [this]
      · rintro e s4 ⟨o4, o5, o6, rfl, hn4, hm4, f4⟩
        have el2 : (encR ns).length = ns.length := List.length_map _
        rw [el2, List.take_length] at hm4
        repeat walk_at "d"
        refine p m s4 ⟨hm4, ?_, ?_, ?_⟩
        · have := h3.le; have := f1.le; have := f2.le; omega
        · have := h3.lt; have := f4.le; omega
        · have a1 : Fr [] st s2 := ((f1.mono (by simp)).trans f2).new h1.le
          exact (a1.trans ((f3.mono (show ∀ i ∈ ([] : List Nat), i ∈ [m] by simp)).trans f4 |>.new h3.le))
end
end K24

/-! DdF: pushes told, deeds drawn. -/
namespace K24
open PySem L2 Den Pg Lw
local macro_rules | `(tactic| walk_at "side") => `(tactic| first | assumption | exact List.not_mem_nil | (exact Ne.symm (by assumption)) | (refine nm_one ?_; walk_at "side") | (refine nm_two ?_ ?_ <;> walk_at "side") | (refine nm_cons ?_ ?_ <;> walk_at "side") | omega)
local macro_rules | `(tactic| walk_at "look") => `(tactic| first | assumption | exact New.get (by assumption) | (exact Fr.get (by assumption) (by walk_at "look") (by walk_at "side")) | (exact Fr.get (New.fr (by assumption)) (by walk_at "look") (by walk_at "side")))
local macro_rules | `(tactic| walk_at "d") => `(tactic| first
  | ((with_reducible refine' i_loc ?h ?_); case h => exact rfl)
  | with_reducible refine w_seq.mpr ?_ | with_reducible refine w_set.mpr ?_ | with_reducible refine w_ex.mpr ?_ | with_reducible refine w_ret.mpr ?_ | with_reducible refine w_site.mpr ?_ | with_reducible refine w_asgn.mpr ?_
  | with_reducible refine w_asgs.mpr ?_ | with_reducible refine w_asgT.mpr ?_ | with_reducible refine w_skip.mpr ?_ | with_reducible refine sk_nx ?_ | with_reducible refine sk_ret ?_ | with_reducible refine sk_brk ?_
  | with_reducible refine sk_cont ?_ | with_reducible refine rk_ret ?_ | with_reducible refine rk_nx ?_ | with_reducible refine tk_tup ?_ | with_reducible refine lp_nx ?_ | with_reducible refine lp_cont ?_
  | with_reducible refine lp_brk ?_ | with_reducible refine lp_ret ?_ | with_reducible refine bk_bl ?_ | with_reducible refine w_tnm.mpr ?_ | with_reducible refine w_tsub.mpr ?_ | with_reducible refine w_tnil.mpr ?_
  | with_reducible refine wB_W.mpr ?_ | with_reducible refine w_con.mpr ?_ | with_reducible refine w_app.mpr ?_ | with_reducible refine w_cons.mpr ?_ | with_reducible refine w_nil.mpr ?_ | with_reducible refine w_and.mpr ?_
  | with_reducible refine w_or.mpr ?_ | with_reducible refine w_ite.mpr ?_ | with_reducible refine w_chn.mpr ?_ | with_reducible refine w_mth.mpr ?_ | with_reducible refine w_ofl.mpr ?_ | with_reducible refine w_ixl.mpr ?_
  | with_reducible refine w_dsp.mpr ?_ | with_reducible refine w_map.mpr ?_ | with_reducible refine w_lapp.mpr ?_ | with_reducible refine w_ival.mpr ?_ | with_reducible refine w_irng.mpr ?_ | with_reducible refine w_ienu.mpr ?_
  | with_reducible refine w_iofl.mpr ?_ | with_reducible refine w_izip.mpr ?_ | with_reducible refine w_izip3.mpr ?_ | with_reducible refine zk_tt ?_ | with_reducible refine z3_t ?_ | with_reducible refine i_T ?_
  | with_reducible refine i_F ?_ | with_reducible refine W_add ?_ | with_reducible refine W_sub ?_ | with_reducible refine W_addI ?_ | with_reducible refine W_subI ?_ | with_reducible refine W_neg ?_
  | with_reducible refine W_not ?_ | with_reducible refine W_int ?_ | with_reducible refine W_abs ?_ | with_reducible refine W_lt ?_ | with_reducible refine W_le ?_ | with_reducible refine W_gt ?_
  | with_reducible refine W_ge ?_ | with_reducible refine W_eqI ?_ | with_reducible refine W_neI ?_ | with_reducible refine W_isN ?_ | with_reducible refine W_notN ?_ | with_reducible refine W_tup ?_
  | with_reducible refine W_gTup ?_ | with_reducible refine W_gLen ?_ | with_reducible refine W_lenT ?_ | with_reducible refine W_tupT ?_ | with_reducible refine W_liT ?_ | with_reducible refine W_slHT ?_
  | with_reducible refine W_slLT ?_ | with_reducible refine Wo_srcT ?_ | with_reducible refine W_isiT ?_ | with_reducible refine W_isiI ?_ | with_reducible refine W_isiB ?_ | ((with_reducible refine' W_mul ?h ?_); case h => first | assumption | exact .inr (.inl (by decide)) | exact .inl (by decide) | exact .inl (by omega) | exact .inr (.inl (by omega)))
  | ((with_reducible refine' W_div ?h ?_); case h => first | decide | assumption)
  | ((with_reducible refine' W_mod ?h ?_); case h => first | decide | assumption | omega)
  | ((with_reducible refine' W_pow ?h ?_); case h => decide)
  | ((with_reducible refine' W_ixT ?k ?_); (case k => first | exact atI_0 | exact atI_1 | exact atI_2 | exact atI_3 | assumption))
  | ((with_reducible refine' W_ixL ?h ?k ?_); (case h => walk_at "look"); (case k => first | exact atI_0 | exact atI_1 | exact atI_2 | exact atI_3 | assumption))
  | ((with_reducible refine' W_lenL ?h ?_); case h => walk_at "look")
  | ((with_reducible refine' W_lenD ?h ?_); case h => walk_at "look")
  | ((with_reducible refine' W_tupL ?h ?_); case h => walk_at "look")
  | ((with_reducible refine' W_tupDi ?h ?_); case h => walk_at "look")
  | ((with_reducible refine' W_liL ?h ?_); case h => walk_at "look")
  | ((with_reducible refine' W_liD ?h ?_); case h => walk_at "look")
  | ((with_reducible refine' Wo_srcL ?h ?_); case h => walk_at "look")
  | ((with_reducible refine' W_isiD ?h ?_); case h => walk_at "look")
  | ((with_reducible refine' W_isiL ?h ?_); case h => walk_at "look")
  | ((with_reducible refine' zk_tl ?h ?_); case h => walk_at "look")
  | ((with_reducible refine' zk_lt ?h ?_); case h => walk_at "look")
  | ((with_reducible refine' i_B ?h ?_); case h => first | rfl | assumption | (simp; done))
  | ((with_reducible refine' i_N ?h ?_); case h => first | rfl | assumption | (simp; done))
  | ((with_reducible refine' i_ok ?h ?_); case h => exact isLst_at (by walk_at "look"))
  | ((with_reducible refine' w_lc20 ?h ?_); case h => first | exact rfl | exact lk_list rfl (by walk_at "look"))
  | ((with_reducible refine' w_lc0 ?h ?_); case h => first | exact rfl | exact lk_list rfl (by walk_at "look")))
local macro_rules | `(tactic| walk_at "f") => `(tactic| ((with_reducible refine' w_for0 ?h ?_); case h => first | exact rfl | exact lk_list rfl (by walk_at "look")))

section
variable {st : Store} {P : PV → Store → Prop} {ns : List Str}
theorem frBack {s : Store} {n : Nat} (f : Fr [n] st s) (h : s[n]? = st[n]?) : Fr [] st s := ⟨f.le, fun i hi _ => by
  by_cases e : i = n
  · rw [e]; exact h
  · exact f.eq i hi (by simp [e])⟩
theorem push_told_ok {ps : Ps} (G : Gd ps) (h8 : ps.length ≤ 8) {n m : Nat} {lm : Bool} (hn : st[n]? = some (.dic false (encP ps))) (hm : st[m]? = some (.dic lm (encP ps))) (p : ∀ s, Fr [] st s → P (.bl true) s) : W (F_law_push_told [.ref n, .ref m] st) P := by
  unfold F_law_push_told
  with_reducible refine W_run ?_ ?_
  · rfl
  unfold b_law_push_told
  repeat walk_at "d"
  refine W_neD hn hm (dEq_enc G) ?_
  repeat walk_at "d"
  refine for_D (fun j e s => ∃ o2 o3, e = [some (.ref n), some (.ref m), o2, o3] ∧ s[n]? = some (.dic true (encP ps)) ∧ Fr [n] st s) rfl hn ?_ ?_ ?_ ?_
  · intro s h f
    exact ⟨_, _, rfl, h, f⟩
  · rintro j e s ⟨o2, o3, rfl, h, _⟩
    exact h
  · rintro j k v e s hk ⟨o2, o3, rfl, h, f⟩
    obtain ⟨x, hx, rfl, _⟩ := enc_get hk
    refine ⟨_, rfl, ?_⟩
    have hkp : kP (Sum.inr x) = PV.str x := rfl
    rw [hkp]
    repeat walk_at "d"
    refine W_at h hx ?_
    repeat walk_at "d"
    refine is_int_ok ?_
    repeat walk_at "d"
    exact ⟨_, _, rfl, h, f⟩
  · rintro e s ⟨o2, o3, rfl, h, f⟩ s3 h3 f3
    repeat walk_at "d"
    exact p s3 (frBack (f.trans f3) (by rw [h3, hn]))
theorem law_deed_ok {p g s : Nat} (hp : Pot p g s st) (ne : ns ≠ []) (l8 : ns.length ≤ 8) (k : ∀ (d : Dd) st', d.on ns → Pot p g s st' → Fr [p, g] st st' → P (encD d) st') : W (F_law_deed [.ref p, .tup (encR ns)] st) P := by
  have ene : encR ns ≠ [] := fun z => ne (List.map_eq_nil_iff.mp z)
  have el : (encR ns).length ≤ 1000000 := by unfold encR; rw [List.length_map]; omega
  unfold F_law_deed
  with_reducible refine W_run ?_ ?_
  · rfl
  unfold b_law_deed
  repeat walk_at "d"
  refine W_drw hp (by decide) (by decide +kernel) fun r s1 r0 r1 hp1 _ f1 => ?_
  repeat walk_at "d"
  refine W_any (xs := encR ns) hp1 (.inl ⟨_, rfl, rfl⟩) ene el fun v s2 hv hp2 _ f2 => ?_
  obtain ⟨x, hx, rfl⟩ := List.mem_map.mp hv
  have f02 := f1.trans f2
  repeat walk_at "d"
  refine i_if (fun z => ?_) fun z => ?_
  · repeat walk_at "d"
    exact k (.zero x) _ hx hp2 f02
  · repeat walk_at "d"
    refine i_if (fun z => ?_) fun z => ?_
    · repeat walk_at "d"
      refine W_any (xs := encR ns) hp2 (.inl ⟨_, rfl, rfl⟩) ene el fun v s3 hv hp3 _ f3 => ?_
      obtain ⟨y, hy, rfl⟩ := List.mem_map.mp hv
      repeat walk_at "d"
      exact k (.copy x y) _ ⟨hx, hy⟩ hp3 (f02.trans f3)
    · repeat walk_at "d"
      exact k (.more x) _ hx hp2 f02
theorem at_in {q : List Str} {i : Int} (h0 : -(q.length : Int) ≤ i) (h1 : i < q.length) : ∃ a, a ∈ q ∧ atI (encR q) i = some (.str a) := by
  have el : (encR q).length = q.length := List.length_map _
  have get : ∀ j : Nat, j < q.length → ∃ a, a ∈ q ∧ (encR q)[j]? = some (.str a) := fun j hj => by
    refine ⟨q[j], List.getElem_mem hj, ?_⟩
    unfold encR
    rw [List.getElem?_map, List.getElem?_eq_getElem hj]
    rfl
  unfold atI ixN
  rw [el]
  by_cases h : 0 ≤ i
  · rw [if_pos h, if_pos h1]
    exact get i.toNat (by omega)
  · rw [if_neg h, if_pos h0]
    exact get (i + q.length).toNat (by omega)
theorem law_wheel_ok {p g s : Nat} (hp : Pot p g s st) (l4 : 4 ≤ ns.length) (l8 : ns.length ≤ 8) (k : ∀ (ds : List Dd) st', (∀ d ∈ ds, d.on ns) → ds.length ≤ 10 → Pot p g s st' → Fr [p, g] st st' → P (.tup (ds.map encD)) st') : W (F_law_wheel [.ref p, .tup (encR ns)] st) P := by
  have el0 : (encR ns).length = ns.length := List.length_map _
  unfold F_law_wheel
  with_reducible refine W_run ?_ ?_
  · rfl
  unfold b_law_wheel
  repeat walk_at "d"
  refine W_mixed (xs := encR ns) hp (by simp [flList]) (by omega) fun n ys s1 hn hat perm hp1 f1 => ?_
  obtain ⟨l, rfl, hl⟩ := perm_enc perm
  have ll := hl.length_eq
  repeat walk_at "d"
  refine W_drw hp1 (by decide) (by decide +kernel) fun r s2 r0 r1 hp2 l2 f2 => ?_
  have plt := hp.lt
  have hat2 : s2[n]? = some (.lst (encR l)) := f2.get hat (by simp; omega)
  repeat walk_at "d"
  have er : (3 + r) = ((3 + r.toNat : Nat) : Int) := by omega
  refine nSlHL hat2 fun q s3 h3 => ?_
  rw [er, take_enc] at h3
  have f3 := h3.fr
  obtain ⟨w, ew⟩ : ∃ w, l.take (3 + r.toNat) = w := ⟨_, rfl⟩
  rw [ew] at h3
  have wl : 3 ≤ w.length ∧ w.length ≤ 4 := by rw [← ew, List.length_take]; omega
  have win : ∀ a ∈ w, a ∈ ns := fun a ha => hl.mem_iff.mp (by rw [← ew] at ha; exact List.mem_of_mem_take ha)
  have hq := h3.get
  have elw : (encR w).length = w.length := List.length_map _
  obtain ⟨a1, ha1, e1⟩ := at_in (q := w) (i := -1) (by omega) (by omega)
  obtain ⟨a2, ha2, e2⟩ := at_in (q := w) (i := -2) (by omega) (by omega)
  obtain ⟨a3, ha3, e3⟩ := at_in (q := w) (i := 0) (by omega) (by omega)
  have hp3 := hp2.fr f3 (by simp) (by simp) (by simp)
  repeat walk_at "d"
  refine nLst fun t s4 h4 => ?_
  have f4 := h4.fr
  have hq4 : s4[q]? = some (.lst (encR w)) := f4.get hq (by simp)
  have hp4 := hp3.fr f4 (by simp) (by simp) (by simp)
  have plt2 := hp2.lt
  have t4 := h4.le
  have q4 := h3.le
  have q5 := h3.lt
  have f04 : Fr [p, g] st s4 := ((f1.trans f2).trans (f3.mono (by simp))).trans (f4.mono (by simp))
  repeat walk_at "d"
  walk_at "f"
  repeat walk_at "d"
  rw [elw]
  have sm : (small62 ((w.length : Int) - 2) && small62 0) = true := by
    have : (w.length : Int) - 2 = ((w.length - 2 : Nat) : Int) := by omega
    rw [this, small_len (by omega)]
    decide
  refine Wo_of (a := ⟨(List.range (((w.length : Int) - 2) - 0).toNat).map fun i => .int (((w.length : Int) - 2) - (i : Nat)), []⟩) (by
    show (if small62 ((w.length : Int) - 2) && small62 0 then _ else _) = _
    rw [if_pos sm]) ?_
  refine for_T (fun j e s5 => ∃ ds : List Dd, ∃ o4, e = [some (.ref p), some (.tup (encR ns)), some (.ref q), some (.ref t), o4] ∧ ds.length = j + 1 ∧ (∀ d ∈ ds, d.on ns) ∧ s5[t]? = some (.lst (ds.map encD)) ∧ Fr [t] s4 s5)
    ⟨[.copy a1 a2], _, rfl, rfl, ?_, h4.get, .refl⟩ ?_ ?_
  · intro d hd
    have : d = .copy a1 a2 := by simpa using hd
    subst this
    exact ⟨win _ ha1, win _ ha2⟩
  · rintro j x e s5 hx ⟨ds, o4, rfl, dl, don', ht, f5⟩
    rw [List.getElem?_map] at hx
    have hj : j < (((w.length : Int) - 2) - 0).toNat := by
      cases hr : (List.range (((w.length : Int) - 2) - 0).toNat)[j]? with
      | none =>
        rw [hr] at hx
        cases hx
      | some z => simpa using (List.getElem?_eq_some_iff.mp hr).1
    rw [List.getElem?_range hj] at hx
    have ex : PV.int ((w.length : Int) - 2 - (j : Nat)) = x := by simpa using hx
    subst ex
    obtain ⟨b1, hb1, i1⟩ := at_in (q := w) (i := (w.length : Int) - 2 - (j : Nat)) (by omega) (by omega)
    obtain ⟨b2, hb2, i2⟩ := at_in (q := w) (i := (w.length : Int) - 2 - (j : Nat) - 1) (by omega) (by omega)
    have hq5 : s5[q]? = some (.lst (encR w)) := f5.get hq4 (by simp; omega)
    refine ⟨_, rfl, ?_⟩
    repeat walk_at "d"
    refine nApp ht (by rw [List.length_map]; omega) fun s6 h6 f6 => ?_
    repeat walk_at "d"
    refine ⟨ds ++ [.copy b1 b2], _, rfl, by simp [dl], fun d hd => ?_, by rw [h6, List.map_append]; rfl, f5.trans f6⟩
    rcases List.mem_append.mp hd with h | h
    · exact don' d h
    · have : d = .copy b1 b2 := by simpa using h
      subst this
      exact ⟨win _ hb1, win _ hb2⟩
  · rintro e s5 ⟨ds, o4, rfl, dl, don', ht, f5⟩
    have dl' : ds.length ≤ 4 := by
      rw [List.length_map, List.length_range] at dl
      omega
    have hq5 : s5[q]? = some (.lst (encR w)) := f5.get hq4 (by simp; omega)
    have hp5 := hp4.fr f5 (by simp; omega) (by simp; omega) (by simp; omega)
    repeat walk_at "d"
    rw [elw]
    refine W_drw hp5 (by omega) (Int.lt_of_le_of_lt (show (w.length : Int) - 1 ≤ 4 by omega) (by decide +kernel)) fun r2 s6 r20 r21 hp6 _ f6 => ?_
    have hq6 : s6[q]? = some (.lst (encR w)) := f6.get hq5 (by simp; omega)
    have ht6 : s6[t]? = some (.lst (ds.map encD)) := f6.get ht (by simp; omega)
    obtain ⟨c1, hc1, i3⟩ := at_in (q := w) (i := r2) (by omega) (by omega)
    repeat walk_at "d"
    refine nLst fun u s7 h7 => ?_
    have ht7 : s7[t]? = some (.lst (ds.map encD)) := h7.fr.get ht6 (by simp)
    repeat walk_at "d"
    refine nAddL ht7 h7.get (by simp; omega) fun z s8 h8 => ?_
    repeat walk_at "d"
    have ez : ds.map encD ++ [PV.tup [.str "copy", .str a3, .str a1], .tup [.str "more", .str c1]] = (ds ++ [Dd.copy a3 a1, Dd.more c1]).map encD := by
      rw [List.map_append]
      rfl
    rw [ez]
    refine k _ _ (fun d hd => ?_) (by simp; omega) ((hp6.fr h7.fr (by simp) (by simp) (by simp)).fr h8.fr (by simp) (by simp) (by simp)) ?_
    · rcases List.mem_append.mp hd with h | h
      · exact don' d h
      · have : d = .copy a3 a1 ∨ d = .more c1 := by simpa using h
        rcases this with rfl | rfl
        · exact ⟨win _ ha3, win _ ha1⟩
        · exact win _ hc1
    · have a5 : Fr [p, g] st s5 := ⟨by have := f04.le; have := f5.le; omega, fun i hi hpg => by
        rw [f5.eq i (Nat.lt_of_lt_of_le hi f04.le) (by have := f1.le; have := f2.le; simp; omega)]
        exact f04.eq i hi hpg⟩
      exact ((a5.trans f6).trans (h7.fr.mono (by simp))).trans (h8.fr.mono (by simp))
end
end K24

/-! k24: pushes of deeds. -/
namespace K24
open PySem L2 Den Pg Lw
local macro_rules | `(tactic| walk_at "side") => `(tactic| first | assumption | exact List.not_mem_nil | (exact Ne.symm (by assumption)) | (refine nm_one ?_; walk_at "side") | (refine nm_two ?_ ?_ <;> walk_at "side") | (refine nm_cons ?_ ?_ <;> walk_at "side") | omega)
local macro_rules | `(tactic| walk_at "look") => `(tactic| first | assumption | exact New.get (by assumption) | (exact Fr.get (by assumption) (by walk_at "look") (by walk_at "side")) | (exact Fr.get (New.fr (by assumption)) (by walk_at "look") (by walk_at "side")))
local macro_rules | `(tactic| walk_at "d") => `(tactic| first
  | ((with_reducible refine' i_loc ?h ?_); case h => exact rfl)
  | with_reducible refine w_seq.mpr ?_ | with_reducible refine w_set.mpr ?_ | with_reducible refine w_ex.mpr ?_ | with_reducible refine w_ret.mpr ?_ | with_reducible refine w_site.mpr ?_ | with_reducible refine w_asgn.mpr ?_
  | with_reducible refine w_asgs.mpr ?_ | with_reducible refine w_asgT.mpr ?_ | with_reducible refine w_skip.mpr ?_ | with_reducible refine sk_nx ?_ | with_reducible refine sk_ret ?_ | with_reducible refine sk_brk ?_
  | with_reducible refine sk_cont ?_ | with_reducible refine rk_ret ?_ | with_reducible refine rk_nx ?_ | with_reducible refine tk_tup ?_ | with_reducible refine lp_nx ?_ | with_reducible refine lp_cont ?_
  | with_reducible refine lp_brk ?_ | with_reducible refine lp_ret ?_ | with_reducible refine bk_bl ?_ | with_reducible refine w_tnm.mpr ?_ | with_reducible refine w_tsub.mpr ?_ | with_reducible refine w_tnil.mpr ?_
  | with_reducible refine wB_W.mpr ?_ | with_reducible refine w_con.mpr ?_ | with_reducible refine w_app.mpr ?_ | with_reducible refine w_cons.mpr ?_ | with_reducible refine w_nil.mpr ?_ | with_reducible refine w_and.mpr ?_
  | with_reducible refine w_or.mpr ?_ | with_reducible refine w_ite.mpr ?_ | with_reducible refine w_chn.mpr ?_ | with_reducible refine w_mth.mpr ?_ | with_reducible refine w_ofl.mpr ?_ | with_reducible refine w_ixl.mpr ?_
  | with_reducible refine w_dsp.mpr ?_ | with_reducible refine w_map.mpr ?_ | with_reducible refine w_lapp.mpr ?_ | with_reducible refine w_ival.mpr ?_ | with_reducible refine w_irng.mpr ?_ | with_reducible refine w_ienu.mpr ?_
  | with_reducible refine w_iofl.mpr ?_ | with_reducible refine w_izip.mpr ?_ | with_reducible refine w_izip3.mpr ?_ | with_reducible refine zk_tt ?_ | with_reducible refine z3_t ?_ | with_reducible refine i_T ?_
  | with_reducible refine i_F ?_ | with_reducible refine W_add ?_ | with_reducible refine W_sub ?_ | with_reducible refine W_addI ?_ | with_reducible refine W_subI ?_ | with_reducible refine W_neg ?_
  | with_reducible refine W_not ?_ | with_reducible refine W_int ?_ | with_reducible refine W_abs ?_ | with_reducible refine W_lt ?_ | with_reducible refine W_le ?_ | with_reducible refine W_gt ?_
  | with_reducible refine W_ge ?_ | with_reducible refine W_eqI ?_ | with_reducible refine W_neI ?_ | with_reducible refine W_isN ?_ | with_reducible refine W_notN ?_ | with_reducible refine W_tup ?_
  | with_reducible refine W_gTup ?_ | with_reducible refine W_gLen ?_ | with_reducible refine W_lenT ?_ | with_reducible refine W_tupT ?_ | with_reducible refine W_liT ?_ | with_reducible refine W_slHT ?_
  | with_reducible refine W_slLT ?_ | with_reducible refine Wo_srcT ?_ | with_reducible refine W_isiT ?_ | with_reducible refine W_isiI ?_ | with_reducible refine W_isiB ?_ | ((with_reducible refine' W_mul ?h ?_); case h => first | assumption | exact .inr (.inl (by decide)) | exact .inl (by decide) | exact .inl (by omega) | exact .inr (.inl (by omega)))
  | ((with_reducible refine' W_div ?h ?_); case h => first | decide | assumption)
  | ((with_reducible refine' W_mod ?h ?_); case h => first | decide | assumption | omega)
  | ((with_reducible refine' W_pow ?h ?_); case h => decide)
  | ((with_reducible refine' W_ixT ?k ?_); (case k => first | exact atI_0 | exact atI_1 | exact atI_2 | exact atI_3 | assumption))
  | ((with_reducible refine' W_ixL ?h ?k ?_); (case h => walk_at "look"); (case k => first | exact atI_0 | exact atI_1 | exact atI_2 | exact atI_3 | assumption))
  | ((with_reducible refine' W_lenL ?h ?_); case h => walk_at "look")
  | ((with_reducible refine' W_lenD ?h ?_); case h => walk_at "look")
  | ((with_reducible refine' W_tupL ?h ?_); case h => walk_at "look")
  | ((with_reducible refine' W_tupDi ?h ?_); case h => walk_at "look")
  | ((with_reducible refine' W_liL ?h ?_); case h => walk_at "look")
  | ((with_reducible refine' W_liD ?h ?_); case h => walk_at "look")
  | ((with_reducible refine' Wo_srcL ?h ?_); case h => walk_at "look")
  | ((with_reducible refine' W_isiD ?h ?_); case h => walk_at "look")
  | ((with_reducible refine' W_isiL ?h ?_); case h => walk_at "look")
  | ((with_reducible refine' zk_tl ?h ?_); case h => walk_at "look")
  | ((with_reducible refine' zk_lt ?h ?_); case h => walk_at "look")
  | ((with_reducible refine' i_B ?h ?_); case h => first | rfl | assumption | (simp; done))
  | ((with_reducible refine' i_N ?h ?_); case h => first | rfl | assumption | (simp; done))
  | ((with_reducible refine' i_ok ?h ?_); case h => exact isLst_at (by walk_at "look"))
  | ((with_reducible refine' w_lc20 ?h ?_); case h => first | exact rfl | exact lk_list rfl (by walk_at "look"))
  | ((with_reducible refine' w_lc0 ?h ?_); case h => first | exact rfl | exact lk_list rfl (by walk_at "look")))
local macro_rules | `(tactic| walk_at "f") => `(tactic| ((with_reducible refine' w_for0 ?h ?_); case h => first | exact rfl | exact lk_list rfl (by walk_at "look")))

theorem deeds_of {ns : List Str} : ∀ {xs ys : List PV}, ys.length = xs.length → (∀ (j : Nat) x, xs[j]? = some x → ∃ y, ys[j]? = some y ∧ ∃ d : Dd, d.on ns ∧ y = encD d) → ∃ ds : List Dd, ys = ds.map encD ∧ ds.length = xs.length ∧ ∀ d ∈ ds, d.on ns
  | [], [], _, _ => ⟨[], rfl, rfl, by simp⟩
  | [], _ :: _, h, _ => by simp at h
  | _ :: _, [], h, _ => by simp at h
  | x :: xs, y :: ys, h, k => by
    obtain ⟨y', e, d, on, e2⟩ := k 0 x rfl
    have : y = y' := by simpa using e
    subst this
    subst e2
    obtain ⟨ds, e3, l3, o3⟩ := deeds_of (xs := xs) (ys := ys) (by simpa using h) fun j x hx => by
      obtain ⟨z, hz, r⟩ := k (j + 1) x (by simpa using hx)
      exact ⟨z, by simpa using hz, r⟩
    exact ⟨d :: ds, by rw [e3]; rfl, by simp [l3], fun e he => by
      rcases List.mem_cons.mp he with h | h
      · rw [h]; exact on
      · exact o3 e h⟩
theorem dicAt {m : Nat} {st : Store} {lk : List (Key × PV)} (h : st[m]? = some (.dic false lk)) : isDic (.ref m) st = true := by simp [isDic, h]
theorem cutP_drop {xs : List PV} {k : Nat} : cutP xs (some (k : Int)) none = xs.drop k := by
  unfold cutP
  rw [HT.sIx_nat, HT.sIx_none]
  by_cases h : k ≤ xs.length
  · rw [Nat.min_eq_left h, List.take_of_length_le (by rw [List.length_drop]; omega)]
  · rw [Nat.min_eq_right (by omega), List.drop_of_length_le (Nat.le_refl _), List.drop_of_length_le (by omega), List.take_nil]
theorem psF_congr {ns : List Str} {f g : Pf} (h : ∀ x, f x = g x) : psF ns f = psF ns g := by
  have : f = g := funext h
  rw [this]
theorem law_true : ∀ ns : List Int, ns.length ≤ 63 → ∃ st', runF 1 N_law.length b_law [.sls ns] [] = some (.bl true, st') := by
  intro sc _
  suffices h : W (runF 1 N_law.length b_law [.sls sc] []) fun v _ => v = .bl true by
    obtain ⟨v, s, e, hv⟩ := h.some
    exact ⟨s, by rw [e, hv]⟩
  refine W_run rfl ?_
  unfold b_law
  repeat walk_at "d"
  refine W_pot (P := _) fun p g sm st1 hp _ _ _ _ => ?_
  repeat walk_at "d"
  walk_at "f"
  repeat walk_at "d"
  with_reducible refine Wo_rng1 ?_ ?_
  · exact small_len (n := 4) (by decide)
  refine for_R (fun _ e s => ∃ o2 o3 o4 o5 o6 o7 o8 o9 o10 o11 o12, e = [some (.sls sc), some (.ref p), o2, o3, o4, o5, o6, o7, o8, o9, o10, o11, o12] ∧ Pot p g sm s) ⟨none, none, none, none, none, none, none, none, none, none, none, rfl, hp⟩ ?_ ?_
  · clear hp
    rintro i e s _ ⟨o2, o3, o4, o5, o6, o7, o8, o9, o10, o11, o12, rfl, hp⟩
    repeat walk_at "d"
    refine push_names_ok hp fun ns s1 hns hp1 f1 => ?_
    obtain ⟨nd, nm, ne, l8⟩ := hns
    repeat walk_at "d"
    refine W_drw hp1 (by decide) (by decide +kernel) fun r s2 r0 r1 hp2 _ f2 => ?_
    repeat walk_at "d"
    obtain ⟨most, emo, hmo⟩ : ∃ most : Nat, gIx [PV.int 4, .int 12, .int 41] (.int r) = some (.int most) ∧ 1 ≤ most ∧ most ≤ 41 := by
      have : r = 0 ∨ r = 1 ∨ r = 2 := by omega
      rcases this with rfl | rfl | rfl
      · exact ⟨4, by simp [gIx], by decide, by decide⟩
      · exact ⟨12, by simp [gIx], by decide, by decide⟩
      · exact ⟨41, by simp [gIx], by decide, by decide⟩
    refine Wo_of emo ?_
    repeat walk_at "d"
    refine W_drw hp2 (by omega) (Int.lt_of_le_of_lt (show (most : Int) ≤ 41 by omega) (by decide +kernel)) fun c s3 c0 c1 hp3 _ f3 => ?_
    obtain ⟨cn, rfl⟩ : ∃ cn : Nat, c = cn := ⟨c.toNat, (Int.toNat_of_nonneg c0).symm⟩
    repeat walk_at "d"
    with_reducible refine Wo_rng1 ?_ ?_
    · exact small_len (by omega)
    refine comp_R (fun s => Pot p g sm s) (fun _ v => ∃ d : Dd, d.on ns ∧ v = encD d) hp3 (by simp [rngI_len']; omega) (fun x hx => ⟨_, rfl, fun s hI => ⟨rfl, ?_⟩⟩) fun s4 ys hp4 hl hat => ⟨rfl, ?_⟩
    · repeat walk_at "d"
      refine law_deed_ok hI ne l8 fun d s' on hp' _ => ?_
      exact ⟨⟨d, on, rfl⟩, hp'⟩
    obtain ⟨ds0, rfl, hl0, on0⟩ := deeds_of hl hat
    rw [List.nil_append]
    have hl0' : ds0.length ≤ 41 := by rw [hl0, rngI_len']; omega
    refine nLst fun n4 s5 h5 => ?_
    have hp5 := hp4.fr h5.fr (by simp) (by simp) (by simp)
    have hn5 := h5.get
    have n4p : n4 ≠ p ∧ n4 ≠ g ∧ n4 ≠ sm := by have := h5.le; have := hp4.lt; omega
    clear hp hp1 hp2 hp3 hp4 f1 f2 f3 hl hat
    with_reducible refine sk_nx ?_
    with_reducible refine w_seq.mpr ?_
    refine wS_post (fun e s => ∃ (n : Nat) (ds : List Dd), ∃ o2 o5 o6 o7 o8 o9 o10 o11 o12, e = [some (.sls sc), some (.ref p), o2, some (.tup (encR ns)), some (.ref n), o5, o6, o7, o8, o9, o10, o11, o12] ∧ ds.length ≤ 60 ∧ (∀ d ∈ ds, d.on ns) ∧ s[n]? = some (.lst (ds.map encD)) ∧ Pot p g sm s) ?_ ?_
    · have eln : (encR ns).length = ns.length := List.length_map _
      repeat walk_at "d"
      refine i_if (fun z => ?_) fun z => ?_
      · have l4 : 4 ≤ ns.length := by
          rw [eln] at z
          have : (3 : Int) < (ns.length : Int) := by simpa using z
          omega
        repeat walk_at "d"
        refine W_drw hp5 (by decide) (by decide +kernel) fun r2 s6 _ _ hp6 _ f6 => ?_
        have plt := hp5.lt
        repeat walk_at "d"
        refine i_if (fun z2 => ?_) fun z2 => ?_
        · repeat walk_at "d"
          refine law_wheel_ok hp6 l4 l8 fun dw s7 onw lw hp7 f7 => ?_
          have hn7 : s7[n4]? = some (.lst (ds0.map encD)) := (f6.trans f7).get hn5 (by simp; omega)
          repeat walk_at "d"
          refine nLst fun u s8 h8 => ?_
          have hn8 : s8[n4]? = some (.lst (ds0.map encD)) := h8.fr.get hn7 (by simp)
          have hp8 := hp7.fr h8.fr (by simp) (by simp) (by simp)
          repeat walk_at "d"
          refine nAddL hn8 h8.get (by simp; omega) fun z s9 h9 => ?_
          have h9' := h9.get
          rw [← List.map_append] at h9'
          repeat walk_at "d"
          refine ⟨rfl, z, ds0 ++ dw, _, _, _, _, _, _, _, _, _, rfl, by rw [List.length_append]; omega, fun d hd => ?_, h9', hp8.fr h9.fr (by simp) (by simp) (by simp)⟩
          rcases List.mem_append.mp hd with h | h
          · exact on0 d h
          · exact onw d h
        · repeat walk_at "d"
          exact ⟨rfl, n4, ds0, _, _, _, _, _, _, _, _, _, rfl, by omega, on0, f6.get hn5 (by simp; omega), hp6⟩
      · repeat walk_at "d"
        exact ⟨rfl, n4, ds0, _, _, _, _, _, _, _, _, _, rfl, by omega, on0, hn5, hp5⟩
    clear hp5 hn5 h5 on0
    rintro e s6 ⟨n6, ds, o2, o5, o6, o7, o8, o9, o10, o11, o12, rfl, hlen, on, hn6, hp6⟩
    have pok := pok_dos on
    have G := gd_psF nd nm ne pok
    have lps : (psF ns (dofs f0 ds)).length ≤ 8 := by unfold psF; rw [List.length_map]; exact l8
    have eks : keys (psF ns (dofs f0 ds)) = ns := keys_psF
    have elp : (ds.map encD).length = ds.length := List.length_map _
    with_reducible refine sk_nx ?_
    repeat walk_at "d"
    refine push_of_ok nd nm ne l8 on (by omega) fun t s7 h7 => ?_
    have hp7 := hp6.fr h7.fr (by simp) (by simp) (by simp)
    have ht7 := h7.get
    have tp : t ≠ p ∧ t ≠ g ∧ t ≠ sm := by have := h7.le; have := hp6.lt; omega
    repeat walk_at "d"
    refine law_push_by_ok nd l8 on (by omega) fun u s8 h8 => ?_
    have hp8 := hp7.fr h8.fr (by simp) (by simp) (by simp)
    have ht8 : s8[t]? = some (.dic false (encP (psF ns (dofs f0 ds)))) := h8.fr.get ht7 (by simp)
    repeat walk_at "d"
    refine push_told_ok G lps ht8 h8.get fun s9 f9 => ?_
    have hp9 := hp8.fr f9 (by simp) (by simp) (by simp)
    have ht9 : s9[t]? = some (.dic false (encP (psF ns (dofs f0 ds)))) := f9.get ht8 (by simp)
    clear h7 h8 ht7 ht8 hp6 hp7 hp8 hn6 f9
    repeat walk_at "d"
    with_reducible refine nDic0 ?_
    intro nb s10 h10
    have hp10 := hp9.fr h10.fr (by simp) (by simp) (by simp)
    have ht10 : s10[t]? = some (.dic false (encP (psF ns (dofs f0 ds)))) := h10.fr.get ht9 (by simp)
    have nbp : nb ≠ p ∧ nb ≠ g ∧ nb ≠ sm := by have := h10.le; have := hp9.lt; omega
    have nbt : nb ≠ t := by have := h10.le; have := at_lt ht9; omega
    have hb10 := h10.get
    repeat walk_at "d"
    walk_at "f"
    repeat walk_at "d"
    refine for_T (fun j e s => ∃ v : Str → Int, ∃ o2 o7 o8 o9 o10 o11 o12, e = [some (.sls sc), some (.ref p), o2, some (.tup (encR ns)), some (.tup (ds.map encD)), some (.ref t), some (.ref nb), o7, o8, o9, o10, o11, o12] ∧ (∀ x, 0 ≤ v x) ∧ s[nb]? = some (.dic false (encN (ns.take j) v)) ∧ s[t]? = some (.dic false (encP (psF ns (dofs f0 ds)))) ∧ Pot p g sm s)
      ⟨fun _ => 0, _, _, _, _, _, _, _, rfl, fun _ => Int.le_refl _, hb10, ht10, hp10⟩ ?_ ?_
    · clear h10 hp10 ht10 hb10 hp9 ht9
      rintro j x e s11 hx ⟨v, o2, o7, o8, o9, o10, o11, o12, rfl, hv, hb, ht, hp⟩
      unfold encR at hx
      rw [List.getElem?_map] at hx
      cases hj : ns[j]? with
      | none => simp [hj] at hx
      | some a =>
        rw [hj] at hx
        have : PV.str a = x := by simpa using hx
        subst this
        refine ⟨_, rfl, ?_⟩
        repeat walk_at "d"
        with_reducible refine great_ok hp ?_
        intro w s12 _ hp12 _ f12
        have hb12 : s12[nb]? = some (.dic false (encN (ns.take j) v)) := f12.get hb (by simp; omega)
        have ht12 : s12[t]? = some (.dic false (encP (psF ns (dofs f0 ds)))) := f12.get ht (by simp; omega)
        have na := not_mem_take nd hj
        have ec : encN (ns.take j) v = encN (ns.take j) (setF v a (w : Nat)) := encN_congr fun y hy => by
          unfold setF
          rw [if_neg fun e : y = a => na (by rw [← e]; exact hy)]
        rw [ec] at hb12
        repeat walk_at "d"
        refine nSetD hb12 rfl (by rw [encN_len, List.length_take]; omega) fun s13 h13 f13 => ?_
        rw [putN na (show ((w : Nat) : Int) = setF v a (w : Nat) a by unfold setF; rw [if_pos rfl]), ← take_snoc hj] at h13
        refine ⟨setF v a (w : Nat), _, _, _, _, _, _, _, rfl, fun y => ?_, h13, f13.get ht12 (by simp; omega), hp12.fr f13 (by simp; omega) (by simp; omega) (by simp; omega)⟩
        unfold setF
        split
        · omega
        · exact hv y
    clear h10 hp10 ht10 hb10 hp9 ht9
    rintro e s11 ⟨v, o2, o7, o8, o9, o10, o11, o12, rfl, hv, hb, ht, hp⟩
    have elr : (encR ns).length = ns.length := List.length_map _
    rw [elr, List.take_length] at hb
    repeat walk_at "d"
    refine nDict hb fun kb s12 h12 => ?_
    have hb12 : s12[nb]? = some (.dic false (encN ns v)) := h12.fr.get hb (by simp)
    have ht12 : s12[t]? = some (.dic false (encP (psF ns (dofs f0 ds)))) := h12.fr.get ht (by simp)
    have hp12 := hp.fr h12.fr (by simp) (by simp) (by simp)
    have hk12 := h12.get
    have knb : kb ≠ nb := by have := h12.le; have := at_lt hb; omega
    have kt : kb ≠ t := by have := h12.le; have := at_lt ht; omega
    have kp : kb ≠ p ∧ kb ≠ g ∧ kb ≠ sm := by have := h12.le; have := hp.lt; omega
    repeat walk_at "d"
    refine nDict hb12 fun qb s13 h13 => ?_
    have hb13 : s13[nb]? = some (.dic false (encN ns v)) := h13.fr.get hb12 (by simp)
    have ht13 : s13[t]? = some (.dic false (encP (psF ns (dofs f0 ds)))) := h13.fr.get ht12 (by simp)
    have hk13 : s13[kb]? = some (.dic false (encN ns v)) := h13.fr.get hk12 (by simp)
    have hp13 := hp12.fr h13.fr (by simp) (by simp) (by simp)
    have hq13 := h13.get
    have qnb : qb ≠ nb := by have := h13.le; have := at_lt hb12; omega
    have qt : qb ≠ t := by have := h13.le; have := at_lt ht12; omega
    have qk : qb ≠ kb := by have := h13.le; have := at_lt hk12; omega
    have qp : qb ≠ p ∧ qb ≠ g ∧ qb ≠ sm := by have := h13.le; have := hp12.lt; omega
    clear h12 h13 hb hb12 ht ht12 hk12 hp hp12
    repeat walk_at "d"
    walk_at "f"
    repeat walk_at "d"
    refine for_T (fun j e s => ∃ o2 o7 o10 o11 o12, e = [some (.sls sc), some (.ref p), o2, some (.tup (encR ns)), some (.tup (ds.map encD)), some (.ref t), some (.ref nb), o7, some (.ref kb), some (.ref qb), o10, o11, o12] ∧ s[qb]? = some (.dic false (encN ns (dons v (ds.take j)))) ∧ Fr [qb] s13 s)
      ⟨_, _, _, _, _, rfl, hq13, .refl⟩ ?_ ?_
    · rintro j x e s14 hx ⟨o2, o7, o10, o11, o12, rfl, hq, f14⟩
      rw [List.getElem?_map] at hx
      cases hd : ds[j]? with
      | none => simp [hd] at hx
      | some d =>
        rw [hd] at hx
        have : encD d = x := by simpa using hx
        subst this
        have et : dons v (ds.take (j + 1)) = don (dons v (ds.take j)) d := by
          unfold dons
          rw [take_snoc hd, List.foldl_append]
          rfl
        refine ⟨_, rfl, ?_⟩
        repeat walk_at "d"
        refine law_do_ok l8 (on d (List.mem_of_getElem? hd)) hq fun s15 h15 f15 => ?_
        repeat walk_at "d"
        exact ⟨_, _, _, _, _, rfl, by rw [et]; exact h15, f14.trans f15⟩
    rintro e s14 ⟨o2, o7, o10, o11, o12, rfl, hq, f14⟩
    rw [elp, List.take_length] at hq
    have hb14 : s14[nb]? = some (.dic false (encN ns v)) := f14.get hb13 (by simp; omega)
    have ht14 : s14[t]? = some (.dic false (encP (psF ns (dofs f0 ds)))) := f14.get ht13 (by simp; omega)
    have hk14 : s14[kb]? = some (.dic false (encN ns v)) := f14.get hk13 (by simp; omega)
    have hp14 := hp13.fr f14 (by simp; omega) (by simp; omega) (by simp; omega)
    clear hb13 ht13 hk13 hp13 hq13 f14
    repeat walk_at "d"
    refine pushed_ok G lps (v := v) (fun x _ => hv x) ht14 (by rw [eks]; exact hb14) (by omega) fun rb s15 h15 => ?_
    have hr15 := h15.get
    rw [eks] at hr15
    have es : encN ns (stp (psF ns (dofs f0 ds)) v) = encN ns (dons v ds) := encN_congr fun x hx => by
      rw [stp_psF hx, val_push]
    rw [es] at hr15
    have hq15 : s15[qb]? = some (.dic false (encN ns (dons v ds))) := h15.fr.get hq (by simp)
    have hb15 : s15[nb]? = some (.dic false (encN ns v)) := h15.fr.get hb14 (by simp)
    have ht15 : s15[t]? = some (.dic false (encP (psF ns (dofs f0 ds)))) := h15.fr.get ht14 (by simp)
    have hk15 : s15[kb]? = some (.dic false (encN ns v)) := h15.fr.get hk14 (by simp)
    have hp15 := hp14.fr h15.fr (by simp) (by simp) (by simp)
    clear h15 hq hb14 ht14 hk14 hp14
    repeat walk_at "d"
    refine W_neD hr15 hq15 (dEq_encN nd) ?_
    repeat walk_at "d"
    refine W_neD hb15 hk15 (dEq_encN nd) ?_
    repeat walk_at "d"
    rw [elp]
    refine W_drw hp15 (by omega) (Int.lt_of_le_of_lt (show (ds.length : Int) + 1 ≤ 61 by omega) (by decide +kernel)) fun at_ s16 a0 a1 hp16 _ f16 => ?_
    have ht16 : s16[t]? = some (.dic false (encP (psF ns (dofs f0 ds)))) := f16.get ht15 (by simp; omega)
    obtain ⟨k, rfl⟩ : ∃ k : Nat, at_ = k := ⟨at_.toNat, (Int.toNat_of_nonneg a0).symm⟩
    have onA : ∀ d ∈ ds.take k, d.on ns := fun d hd => on d (List.mem_of_mem_take hd)
    have onB : ∀ d ∈ ds.drop k, d.on ns := fun d hd => on d (List.mem_of_mem_drop hd)
    have pokA := pok_dos onA
    have pokB := pok_dos onB
    have GA := gd_psF nd nm ne pokA
    have GB := gd_psF nd nm ne pokB
    clear hb15 hq15 hk15 hr15 hp15 ht15 f16
    repeat walk_at "d"
    rw [cutP_take, ← List.map_take]
    refine push_of_ok nd nm ne l8 onA (by rw [List.length_take]; omega) fun ta s17 h17 => ?_
    have hp17 := hp16.fr h17.fr (by simp) (by simp) (by simp)
    have ht17 : s17[t]? = some (.dic false (encP (psF ns (dofs f0 ds)))) := h17.fr.get ht16 (by simp)
    repeat walk_at "d"
    rw [cutP_drop, ← List.map_drop]
    refine push_of_ok nd nm ne l8 onB (by rw [List.length_drop]; omega) fun tb s18 h18 => ?_
    have hp18 := hp17.fr h18.fr (by simp) (by simp) (by simp)
    have ht18 : s18[t]? = some (.dic false (encP (psF ns (dofs f0 ds)))) := h18.fr.get ht17 (by simp)
    have ha18 : s18[ta]? = some (.dic false (encP (psF ns (dofs f0 (ds.take k))))) := h18.fr.get h17.get (by simp)
    repeat walk_at "d"
    refine one_more_ok GA GB (by unfold psF; rw [List.length_map]; exact l8) (by rw [keys_psF, keys_psF]) ha18 h18.get fun rr s19 h19 => ?_
    have hr19 := h19.get
    have eaft : aft (psF ns (dofs f0 (ds.take k))) (psF ns (dofs f0 (ds.drop k))) = psF ns (dofs f0 ds) := by
      rw [aft_psF pokB]
      refine psF_congr fun x => ?_
      rw [cmp_push, List.take_append_drop]
    rw [eaft] at hr19
    have ht19 : s19[t]? = some (.dic false (encP (psF ns (dofs f0 ds)))) := h19.fr.get ht18 (by simp)
    have hp19 := hp18.fr h19.fr (by simp) (by simp) (by simp)
    repeat walk_at "d"
    refine W_neD hr19 ht19 (dEq_enc G) ?_
    repeat walk_at "d"
    refine i_ok (dicAt ht19) ?_
    repeat walk_at "d"
    refine W_of (a := .non) (s := s19.set t (.dic false [])) (by simp [mClear, ht19]) ?_
    have f20 : Fr [t] s19 (s19.set t (.dic false [])) := Fr.set (by simp)
    have hp20 := hp19.fr f20 (by simp; omega) (by simp; omega) (by simp; omega)
    generalize s19.set t (.dic false []) = s20 at f20 hp20 ⊢
    repeat walk_at "d"
    refine push_of_ok nd nm ne l8 on (by omega) fun tc s21 h21 => ?_
    have hp21 := hp20.fr h21.fr (by simp) (by simp) (by simp)
    repeat walk_at "d"
    refine law_push_by_ok nd l8 on (by omega) fun td s22 h22 => ?_
    have hp22 := hp21.fr h22.fr (by simp) (by simp) (by simp)
    have hc22 := h22.fr.get h21.get (by simp)
    repeat walk_at "d"
    refine W_neD hc22 h22.get (dEq_enc G) ?_
    repeat walk_at "d"
    exact ⟨_, _, _, _, _, _, _, _, _, _, _, rfl, hp22⟩
  · rintro e s ⟨o2, o3, o4, o5, o6, o7, o8, o9, o10, o11, o12, rfl, hp⟩
    repeat walk_at "d"
    rfl
end K24

namespace K24
open PySem PySem.Spec PyProof.Rows L2 Den Pg Lw
def top (i : Nat) : Stmt := PySem.Challenge.pw_flatrounds_k24_whole_pushes_of_deeds.main.body.getD i (.Pass ⟨0, 0, 0, 0⟩)
def TB : Tab := T0
def N_law_draw : List Str := ["_law_pot_here", "_law_many", "_law_lap", "_law_number", "_law_seed"]
def N_law_any : List Str := ["_law_pot_here", "_law_items"]
def N_law_great : List Str := ["_law_pot_here", "_law_some"]
def N_law_pot : List Str := ["_law_script", "_law_marks", "_law_greats", "_law_smalls", "_law_item"]
def N_law_mixed : List Str := ["_law_pot_here", "_law_items", "_law_line", "_law_at", "_law_other"]
def N_law_push_names : List Str := ["_law_pot_here"]
def N_law_is_int : List Str := ["_law_thing"]
theorem tr_law_draw : trS TB 300 ⟨N_law_draw, defScope (top 26), fun _ => true⟩ (defBody (top 26)) = b_law_draw := by rfl
theorem tr_law_any : trS (TB.add "_law_draw" F_law_draw) 300 ⟨N_law_any, defScope (top 27), fun _ => true⟩ (defBody (top 27)) = b_law_any := by rfl
theorem tr_law_deed : trS ((TB.add "_law_any" F_law_any).add "_law_draw" F_law_draw) 300 ⟨N_law_deed, defScope (top 29), fun _ => true⟩ (defBody (top 29)) = b_law_deed := by rfl
theorem tr_law_do : trS TB 300 ⟨N_law_do, defScope (top 31), fun _ => true⟩ (defBody (top 31)) = b_law_do := by rfl
theorem tr_law_great : trS (TB.add "_law_draw" F_law_draw) 300 ⟨N_law_great, defScope (top 35), fun _ => true⟩ (defBody (top 35)) = b_law_great := by rfl
theorem tr_law_pot : trS TB 300 ⟨N_law_pot, defScope (top 25), fun _ => true⟩ (defBody (top 25)) = b_law_pot := by rfl
theorem tr_law_push_by : trS (TB.add "_law_do" F_law_do) 300 ⟨N_law_push_by, defScope (top 36), fun _ => true⟩ (defBody (top 36)) = b_law_push_by := by rfl
theorem tr_law_mixed : trS (TB.add "_law_draw" F_law_draw) 300 ⟨N_law_mixed, defScope (top 28), fun _ => true⟩ (defBody (top 28)) = b_law_mixed := by rfl
theorem tr_law_push_names : trS ((TB.add "_law_draw" F_law_draw).add "_law_mixed" F_law_mixed) 300 ⟨N_law_push_names, defScope (top 33), fun _ => true⟩ (defBody (top 33)) = b_law_push_names := by rfl
theorem tr_law_is_int : trS TB 300 ⟨N_law_is_int, defScope (top 32), fun _ => true⟩ (defBody (top 32)) = b_law_is_int := by rfl
theorem tr_law_push_told : trS (TB.add "_law_is_int" F_law_is_int) 300 ⟨N_law_push_told, defScope (top 34), fun _ => true⟩ (defBody (top 34)) = b_law_push_told := by rfl
theorem tr_law_wheel : trS ((TB.add "_law_draw" F_law_draw).add "_law_mixed" F_law_mixed) 300 ⟨N_law_wheel, defScope (top 30), fun _ => true⟩ (defBody (top 30)) = b_law_wheel := by rfl
theorem tr_is_name : trS TB 300 ⟨N_is_name, defScope (top 10), fun _ => true⟩ (defBody (top 10)) = b_is_name := by rfl
theorem tr_is_integer : trS TB 300 ⟨N_is_integer, defScope (top 8), fun _ => true⟩ (defBody (top 8)) = b_is_integer := by rfl
theorem tr_is_number : trS (TB.add "is_integer" F_is_integer) 300 ⟨N_is_number, defScope (top 9), fun _ => true⟩ (defBody (top 9)) = b_is_number := by rfl
theorem tr_is_push : trS ((TB.add "is_name" F_is_name).add "is_number" F_is_number) 300 ⟨N_is_push, defScope (top 15), fun _ => true⟩ (defBody (top 15)) = b_is_push := by rfl
theorem tr_check_push : trS (TB.add "is_push" F_is_push) 300 ⟨N_check_push, defScope (top 16), fun _ => true⟩ (defBody (top 16)) = b_check_push := by rfl
theorem tr_raw_after : trS TB 300 ⟨N_raw_after, defScope (top 22), fun _ => true⟩ (defBody (top 22)) = b_raw_after := by rfl
theorem tr_one_more : trS ((TB.add "check_push" F_check_push).add "raw_after" F_raw_after) 300 ⟨N_one_more, defScope (top 23), fun _ => true⟩ (defBody (top 23)) = b_one_more := by rfl
theorem tr_are_names : trS (TB.add "is_name" F_is_name) 300 ⟨N_are_names, defScope (top 11), fun _ => true⟩ (defBody (top 11)) = b_are_names := by rfl
theorem tr_is_deed : trS (TB.add "is_name" F_is_name) 300 ⟨N_is_deed, defScope (top 13), fun _ => true⟩ (defBody (top 13)) = b_is_deed := by rfl
theorem tr_raw_push : trS TB 300 ⟨N_raw_push, defScope (top 17), fun _ => true⟩ (defBody (top 17)) = b_raw_push := by rfl
theorem tr_push_of : trS (((TB.add "are_names" F_are_names).add "is_deed" F_is_deed).add "raw_push" F_raw_push) 300 ⟨N_push_of, defScope (top 18), fun _ => true⟩ (defBody (top 18)) = b_push_of := by rfl
theorem tr_source_number : trS TB 300 ⟨N_source_number, defScope (top 19), fun _ => true⟩ (defBody (top 19)) = b_source_number := by rfl
theorem tr_raw_pushed : trS (TB.add "source_number" F_source_number) 300 ⟨N_raw_pushed, defScope (top 20), fun _ => true⟩ (defBody (top 20)) = b_raw_pushed := by rfl
theorem tr_pushed : trS (((TB.add "check_push" F_check_push).add "is_number" F_is_number).add "raw_pushed" F_raw_pushed) 300 ⟨N_pushed, defScope (top 21), fun _ => true⟩ (defBody (top 21)) = b_pushed := by rfl
theorem tr_law : trS ((((((((((((TB.add "_law_deed" F_law_deed).add "_law_do" F_law_do).add "_law_draw" F_law_draw).add "_law_great" F_law_great).add "_law_pot" F_law_pot).add "_law_push_by" F_law_push_by).add "_law_push_names" F_law_push_names).add "_law_push_told" F_law_push_told).add "_law_wheel" F_law_wheel).add "one_more" F_one_more).add "push_of" F_push_of).add "pushed" F_pushed) 300 ⟨N_law, defScope (top 37), fun _ => true⟩ (defBody (top 37)) = b_law := by rfl
theorem sc_law_draw : C8.scC N_law_draw ["_law_pot_here", "_law_many"] (defScope (top 26)) = true := by decide +kernel
theorem bi_law_draw : BindOk "_law_draw" (top 26) ["_law_pot_here", "_law_many"] := fun _ _ _ _ _ _ us hl => match us, hl with | [_, _], _ => rfl
theorem sc_law_any : C8.scC N_law_any ["_law_pot_here", "_law_items"] (defScope (top 27)) = true := by decide +kernel
theorem bi_law_any : BindOk "_law_any" (top 27) ["_law_pot_here", "_law_items"] := fun _ _ _ _ _ _ us hl => match us, hl with | [_, _], _ => rfl
theorem sc_law_deed : C8.scC N_law_deed ["_law_pot_here", "_law_names"] (defScope (top 29)) = true := by decide +kernel
theorem bi_law_deed : BindOk "_law_deed" (top 29) ["_law_pot_here", "_law_names"] := fun _ _ _ _ _ _ us hl => match us, hl with | [_, _], _ => rfl
theorem sc_law_do : C8.scC N_law_do ["_law_numbers", "_law_deed_here"] (defScope (top 31)) = true := by decide +kernel
theorem bi_law_do : BindOk "_law_do" (top 31) ["_law_numbers", "_law_deed_here"] := fun _ _ _ _ _ _ us hl => match us, hl with | [_, _], _ => rfl
theorem sc_law_great : C8.scC N_law_great ["_law_pot_here"] (defScope (top 35)) = true := by decide +kernel
theorem bi_law_great : BindOk "_law_great" (top 35) ["_law_pot_here"] := fun _ _ _ _ _ _ us hl => match us, hl with | [_], _ => rfl
theorem sc_law_pot : C8.scC N_law_pot ["_law_script"] (defScope (top 25)) = true := by decide +kernel
theorem bi_law_pot : BindOk "_law_pot" (top 25) ["_law_script"] := fun _ _ _ _ _ _ us hl => match us, hl with | [_], _ => rfl
theorem sc_law_push_by : C8.scC N_law_push_by ["_law_names", "_law_deeds"] (defScope (top 36)) = true := by decide +kernel
theorem bi_law_push_by : BindOk "_law_push_by" (top 36) ["_law_names", "_law_deeds"] := fun _ _ _ _ _ _ us hl => match us, hl with | [_, _], _ => rfl
theorem sc_law_mixed : C8.scC N_law_mixed ["_law_pot_here", "_law_items"] (defScope (top 28)) = true := by decide +kernel
theorem bi_law_mixed : BindOk "_law_mixed" (top 28) ["_law_pot_here", "_law_items"] := fun _ _ _ _ _ _ us hl => match us, hl with | [_, _], _ => rfl
theorem sc_law_push_names : C8.scC N_law_push_names ["_law_pot_here"] (defScope (top 33)) = true := by decide +kernel
theorem bi_law_push_names : BindOk "_law_push_names" (top 33) ["_law_pot_here"] := fun _ _ _ _ _ _ us hl => match us, hl with | [_], _ => rfl
theorem sc_law_is_int : C8.scC N_law_is_int ["_law_thing"] (defScope (top 32)) = true := by decide +kernel
theorem bi_law_is_int : BindOk "_law_is_int" (top 32) ["_law_thing"] := fun _ _ _ _ _ _ us hl => match us, hl with | [_], _ => rfl
theorem sc_law_push_told : C8.scC N_law_push_told ["_law_told", "_law_due"] (defScope (top 34)) = true := by decide +kernel
theorem bi_law_push_told : BindOk "_law_push_told" (top 34) ["_law_told", "_law_due"] := fun _ _ _ _ _ _ us hl => match us, hl with | [_, _], _ => rfl
theorem sc_law_wheel : C8.scC N_law_wheel ["_law_pot_here", "_law_names"] (defScope (top 30)) = true := by decide +kernel
theorem bi_law_wheel : BindOk "_law_wheel" (top 30) ["_law_pot_here", "_law_names"] := fun _ _ _ _ _ _ us hl => match us, hl with | [_, _], _ => rfl
theorem sc_is_name : C8.scC N_is_name ["thing"] (defScope (top 10)) = true := by decide +kernel
theorem bi_is_name : BindOk "is_name" (top 10) ["thing"] := fun _ _ _ _ _ _ us hl => match us, hl with | [_], _ => rfl
theorem sc_is_integer : C8.scC N_is_integer ["thing"] (defScope (top 8)) = true := by decide +kernel
theorem bi_is_integer : BindOk "is_integer" (top 8) ["thing"] := fun _ _ _ _ _ _ us hl => match us, hl with | [_], _ => rfl
theorem sc_is_number : C8.scC N_is_number ["thing"] (defScope (top 9)) = true := by decide +kernel
theorem bi_is_number : BindOk "is_number" (top 9) ["thing"] := fun _ _ _ _ _ _ us hl => match us, hl with | [_], _ => rfl
theorem sc_is_push : C8.scC N_is_push ["thing"] (defScope (top 15)) = true := by decide +kernel
theorem bi_is_push : BindOk "is_push" (top 15) ["thing"] := fun _ _ _ _ _ _ us hl => match us, hl with | [_], _ => rfl
theorem sc_check_push : C8.scC N_check_push ["thing"] (defScope (top 16)) = true := by decide +kernel
theorem bi_check_push : BindOk "check_push" (top 16) ["thing"] := fun _ _ _ _ _ _ us hl => match us, hl with | [_], _ => rfl
theorem sc_raw_after : C8.scC N_raw_after ["push", "other"] (defScope (top 22)) = true := by decide +kernel
theorem bi_raw_after : BindOk "raw_after" (top 22) ["push", "other"] := fun _ _ _ _ _ _ us hl => match us, hl with | [_, _], _ => rfl
theorem sc_one_more : C8.scC N_one_more ["push", "other"] (defScope (top 23)) = true := by decide +kernel
theorem bi_one_more : BindOk "one_more" (top 23) ["push", "other"] := fun _ _ _ _ _ _ us hl => match us, hl with | [_, _], _ => rfl
theorem sc_are_names : C8.scC N_are_names ["thing", "least", "most"] (defScope (top 11)) = true := by decide +kernel
theorem bi_are_names : BindOk "are_names" (top 11) ["thing", "least", "most"] := fun _ _ _ _ _ _ us hl => match us, hl with | [_, _, _], _ => rfl
theorem sc_is_deed : C8.scC N_is_deed ["thing"] (defScope (top 13)) = true := by decide +kernel
theorem bi_is_deed : BindOk "is_deed" (top 13) ["thing"] := fun _ _ _ _ _ _ us hl => match us, hl with | [_], _ => rfl
theorem sc_raw_push : C8.scC N_raw_push ["own", "deeds"] (defScope (top 17)) = true := by decide +kernel
theorem bi_raw_push : BindOk "raw_push" (top 17) ["own", "deeds"] := fun _ _ _ _ _ _ us hl => match us, hl with | [_, _], _ => rfl
theorem sc_push_of : C8.scC N_push_of ["own", "deeds"] (defScope (top 18)) = true := by decide +kernel
theorem bi_push_of : BindOk "push_of" (top 18) ["own", "deeds"] := fun _ _ _ _ _ _ us hl => match us, hl with | [_, _], _ => rfl
theorem sc_source_number : C8.scC N_source_number ["numbers", "pair"] (defScope (top 19)) = true := by decide +kernel
theorem bi_source_number : BindOk "source_number" (top 19) ["numbers", "pair"] := fun _ _ _ _ _ _ us hl => match us, hl with | [_, _], _ => rfl
theorem sc_raw_pushed : C8.scC N_raw_pushed ["push", "numbers"] (defScope (top 20)) = true := by decide +kernel
theorem bi_raw_pushed : BindOk "raw_pushed" (top 20) ["push", "numbers"] := fun _ _ _ _ _ _ us hl => match us, hl with | [_, _], _ => rfl
theorem sc_pushed : C8.scC N_pushed ["push", "numbers"] (defScope (top 21)) = true := by decide +kernel
theorem bi_pushed : BindOk "pushed" (top 21) ["push", "numbers"] := fun _ _ _ _ _ _ us hl => match us, hl with | [_, _], _ => rfl
theorem sc_law : C8.scC N_law ["_law_script"] (defScope (top 37)) = true := by decide +kernel
theorem bi_law : BindOk "law" (top 37) ["_law_script"] := fun _ _ _ _ _ _ us hl => match us, hl with | [_], _ => rfl
theorem tab_law {P : Program} {w : World} {K : PySem.W.Frag} {h : Heap} {mg : Str → Option Value} (X : K.In h) (G : h.Ns mainGlobals mg) (z : ∀ x ∈ blNames, PySem.W.nsIn K mainGlobals x = some none) (d_law_draw : DefAt K "_law_draw" (top 26)) (d_law_any : DefAt K "_law_any" (top 27)) (d_law_deed : DefAt K "_law_deed" (top 29)) (d_law_do : DefAt K "_law_do" (top 31)) (d_law_great : DefAt K "_law_great" (top 35)) (d_law_pot : DefAt K "_law_pot" (top 25)) (d_law_push_by : DefAt K "_law_push_by" (top 36)) (d_law_mixed : DefAt K "_law_mixed" (top 28)) (d_law_push_names : DefAt K "_law_push_names" (top 33)) (d_law_is_int : DefAt K "_law_is_int" (top 32)) (d_law_push_told : DefAt K "_law_push_told" (top 34)) (d_law_wheel : DefAt K "_law_wheel" (top 30)) (d_is_name : DefAt K "is_name" (top 10)) (d_is_integer : DefAt K "is_integer" (top 8)) (d_is_number : DefAt K "is_number" (top 9)) (d_is_push : DefAt K "is_push" (top 15)) (d_check_push : DefAt K "check_push" (top 16)) (d_raw_after : DefAt K "raw_after" (top 22)) (d_one_more : DefAt K "one_more" (top 23)) (d_are_names : DefAt K "are_names" (top 11)) (d_is_deed : DefAt K "is_deed" (top 13)) (d_raw_push : DefAt K "raw_push" (top 17)) (d_push_of : DefAt K "push_of" (top 18)) (d_source_number : DefAt K "source_number" (top 19)) (d_raw_pushed : DefAt K "raw_pushed" (top 20)) (d_pushed : DefAt K "pushed" (top 21)) (d_law : DefAt K "law" (top 37)) (base : Heap) : TabOk ⟨P, w, K, mg, base⟩ 5 ((((((((((((TB.add "_law_deed" F_law_deed).add "_law_do" F_law_do).add "_law_draw" F_law_draw).add "_law_great" F_law_great).add "_law_pot" F_law_pot).add "_law_push_by" F_law_push_by).add "_law_push_names" F_law_push_names).add "_law_push_told" F_law_push_told).add "_law_wheel" F_law_wheel).add "one_more" F_one_more).add "push_of" F_push_of).add "pushed" F_pushed) := by
  have B := mgs_none X G z
  have tabB : ∀ {k : Nat}, TabOk ⟨P, w, K, mg, base⟩ k TB := fun {k} => (tab0 B)
  have k_law_draw : Kn ⟨P, w, K, mg, base⟩ 1 "_law_draw" F_law_draw := d_law_draw.kn X G sc_law_draw tabB tr_law_draw bi_law_draw (by decide)
  have k_law_any : Kn ⟨P, w, K, mg, base⟩ 2 "_law_any" F_law_any := d_law_any.kn X G sc_law_any (tabB.add k_law_draw (by decide)) tr_law_any bi_law_any (by decide)
  have k_law_deed : Kn ⟨P, w, K, mg, base⟩ 3 "_law_deed" F_law_deed := d_law_deed.kn X G sc_law_deed ((tabB.add k_law_any (by decide)).add k_law_draw (by decide)) tr_law_deed bi_law_deed (by decide)
  have k_law_do : Kn ⟨P, w, K, mg, base⟩ 1 "_law_do" F_law_do := d_law_do.kn X G sc_law_do tabB tr_law_do bi_law_do (by decide)
  have k_law_great : Kn ⟨P, w, K, mg, base⟩ 2 "_law_great" F_law_great := d_law_great.kn X G sc_law_great (tabB.add k_law_draw (by decide)) tr_law_great bi_law_great (by decide)
  have k_law_pot : Kn ⟨P, w, K, mg, base⟩ 1 "_law_pot" F_law_pot := d_law_pot.kn X G sc_law_pot tabB tr_law_pot bi_law_pot (by decide)
  have k_law_push_by : Kn ⟨P, w, K, mg, base⟩ 2 "_law_push_by" F_law_push_by := d_law_push_by.kn X G sc_law_push_by (tabB.add k_law_do (by decide)) tr_law_push_by bi_law_push_by (by decide)
  have k_law_mixed : Kn ⟨P, w, K, mg, base⟩ 2 "_law_mixed" F_law_mixed := d_law_mixed.kn X G sc_law_mixed (tabB.add k_law_draw (by decide)) tr_law_mixed bi_law_mixed (by decide)
  have k_law_push_names : Kn ⟨P, w, K, mg, base⟩ 3 "_law_push_names" F_law_push_names := d_law_push_names.kn X G sc_law_push_names ((tabB.add k_law_draw (by decide)).add k_law_mixed (by decide)) tr_law_push_names bi_law_push_names (by decide)
  have k_law_is_int : Kn ⟨P, w, K, mg, base⟩ 1 "_law_is_int" F_law_is_int := d_law_is_int.kn X G sc_law_is_int tabB tr_law_is_int bi_law_is_int (by decide)
  have k_law_push_told : Kn ⟨P, w, K, mg, base⟩ 2 "_law_push_told" F_law_push_told := d_law_push_told.kn X G sc_law_push_told (tabB.add k_law_is_int (by decide)) tr_law_push_told bi_law_push_told (by decide)
  have k_law_wheel : Kn ⟨P, w, K, mg, base⟩ 3 "_law_wheel" F_law_wheel := d_law_wheel.kn X G sc_law_wheel ((tabB.add k_law_draw (by decide)).add k_law_mixed (by decide)) tr_law_wheel bi_law_wheel (by decide)
  have k_is_name : Kn ⟨P, w, K, mg, base⟩ 1 "is_name" F_is_name := d_is_name.kn X G sc_is_name tabB tr_is_name bi_is_name (by decide)
  have k_is_integer : Kn ⟨P, w, K, mg, base⟩ 1 "is_integer" F_is_integer := d_is_integer.kn X G sc_is_integer tabB tr_is_integer bi_is_integer (by decide)
  have k_is_number : Kn ⟨P, w, K, mg, base⟩ 2 "is_number" F_is_number := d_is_number.kn X G sc_is_number (tabB.add k_is_integer (by decide)) tr_is_number bi_is_number (by decide)
  have k_is_push : Kn ⟨P, w, K, mg, base⟩ 3 "is_push" F_is_push := d_is_push.kn X G sc_is_push ((tabB.add k_is_name (by decide)).add k_is_number (by decide)) tr_is_push bi_is_push (by decide)
  have k_check_push : Kn ⟨P, w, K, mg, base⟩ 4 "check_push" F_check_push := d_check_push.kn X G sc_check_push (tabB.add k_is_push (by decide)) tr_check_push bi_check_push (by decide)
  have k_raw_after : Kn ⟨P, w, K, mg, base⟩ 1 "raw_after" F_raw_after := d_raw_after.kn X G sc_raw_after tabB tr_raw_after bi_raw_after (by decide)
  have k_one_more : Kn ⟨P, w, K, mg, base⟩ 5 "one_more" F_one_more := d_one_more.kn X G sc_one_more ((tabB.add k_check_push (by decide)).add k_raw_after (by decide)) tr_one_more bi_one_more (by decide)
  have k_are_names : Kn ⟨P, w, K, mg, base⟩ 2 "are_names" F_are_names := d_are_names.kn X G sc_are_names (tabB.add k_is_name (by decide)) tr_are_names bi_are_names (by decide)
  have k_is_deed : Kn ⟨P, w, K, mg, base⟩ 2 "is_deed" F_is_deed := d_is_deed.kn X G sc_is_deed (tabB.add k_is_name (by decide)) tr_is_deed bi_is_deed (by decide)
  have k_raw_push : Kn ⟨P, w, K, mg, base⟩ 1 "raw_push" F_raw_push := d_raw_push.kn X G sc_raw_push tabB tr_raw_push bi_raw_push (by decide)
  have k_push_of : Kn ⟨P, w, K, mg, base⟩ 3 "push_of" F_push_of := d_push_of.kn X G sc_push_of (((tabB.add k_are_names (by decide)).add k_is_deed (by decide)).add k_raw_push (by decide)) tr_push_of bi_push_of (by decide)
  have k_source_number : Kn ⟨P, w, K, mg, base⟩ 1 "source_number" F_source_number := d_source_number.kn X G sc_source_number tabB tr_source_number bi_source_number (by decide)
  have k_raw_pushed : Kn ⟨P, w, K, mg, base⟩ 2 "raw_pushed" F_raw_pushed := d_raw_pushed.kn X G sc_raw_pushed (tabB.add k_source_number (by decide)) tr_raw_pushed bi_raw_pushed (by decide)
  have k_pushed : Kn ⟨P, w, K, mg, base⟩ 5 "pushed" F_pushed := d_pushed.kn X G sc_pushed (((tabB.add k_check_push (by decide)).add k_is_number (by decide)).add k_raw_pushed (by decide)) tr_pushed bi_pushed (by decide)
  exact ((((((((((((tabB.add k_law_deed (by decide)).add k_law_do (by decide)).add k_law_draw (by decide)).add k_law_great (by decide)).add k_law_pot (by decide)).add k_law_push_by (by decide)).add k_law_push_names (by decide)).add k_law_push_told (by decide)).add k_law_wheel (by decide)).add k_one_more (by decide)).add k_push_of (by decide)).add k_pushed (by decide))
theorem all_mk {P : Program} {w : World} {K : PySem.W.Frag} {h : Heap} {mg : Str → Option Value} {fa : Addr} (X : K.In h) (G : h.Ns mainGlobals mg) (hfa : mg "law" = some (.ref fa)) (z : ∀ x ∈ blNames, PySem.W.nsIn K mainGlobals x = some none) (d_law_draw : DefAt K "_law_draw" (top 26)) (d_law_any : DefAt K "_law_any" (top 27)) (d_law_deed : DefAt K "_law_deed" (top 29)) (d_law_do : DefAt K "_law_do" (top 31)) (d_law_great : DefAt K "_law_great" (top 35)) (d_law_pot : DefAt K "_law_pot" (top 25)) (d_law_push_by : DefAt K "_law_push_by" (top 36)) (d_law_mixed : DefAt K "_law_mixed" (top 28)) (d_law_push_names : DefAt K "_law_push_names" (top 33)) (d_law_is_int : DefAt K "_law_is_int" (top 32)) (d_law_push_told : DefAt K "_law_push_told" (top 34)) (d_law_wheel : DefAt K "_law_wheel" (top 30)) (d_is_name : DefAt K "is_name" (top 10)) (d_is_integer : DefAt K "is_integer" (top 8)) (d_is_number : DefAt K "is_number" (top 9)) (d_is_push : DefAt K "is_push" (top 15)) (d_check_push : DefAt K "check_push" (top 16)) (d_raw_after : DefAt K "raw_after" (top 22)) (d_one_more : DefAt K "one_more" (top 23)) (d_are_names : DefAt K "are_names" (top 11)) (d_is_deed : DefAt K "is_deed" (top 13)) (d_raw_push : DefAt K "raw_push" (top 17)) (d_push_of : DefAt K "push_of" (top 18)) (d_source_number : DefAt K "source_number" (top 19)) (d_raw_pushed : DefAt K "raw_pushed" (top 20)) (d_pushed : DefAt K "pushed" (top 21)) (d_law : DefAt K "law" (top 37)) : ∃ fd : FuncData, (∀ (s : Shared) (u : Value), BindsTo s fd ⟨[u], []⟩ [("_law_script", u)]) ∧ ∀ base : Heap, K.In base → base.Ns mainGlobals mg → FnOk P w K mg base CX0 6 fa fd ["_law_script"] (spLaw 63 K) :=
  law_mk X G hfa d_law sc_law tr_law bi_law (tab_law X G z d_law_draw d_law_any d_law_deed d_law_do d_law_great d_law_pot d_law_push_by d_law_mixed d_law_push_names d_law_is_int d_law_push_told d_law_wheel d_is_name d_is_integer d_is_number d_is_push d_check_push d_raw_after d_one_more d_are_names d_is_deed d_raw_push d_push_of d_source_number d_raw_pushed d_pushed d_law) law_true
end K24
open PySem PySem.W PyProof.Rows
theorem PySem.Challenge.cw_flatrounds_k24_whole_pushes_of_deeds_holds : PySem.Challenge.rw_flatrounds_k24_whole_pushes_of_deeds.Holds := by
  w_on; o_law; k_head; (case hw => w_witness2)
  k_fill
  refine L2.walk_of (l := PySem.Challenge.rw_flatrounds_k24_whole_pushes_of_deeds) (n := 63) (k := 6) (x := "_law_script") (CX := fun _ => L2.CX0) (sp := fun w => Den.spLaw 63 _) rfl (by decide) rfl ⟨rfl, by decide, by decide⟩ (fun w h Y => PySem.W.kIn_of Y) ?F (fun _ _ a ns hl hO hS => ⟨a, ns, rfl, hl, hO, hS, fun _ => rfl⟩) (fun _ _ _ _ _ h => h)
  case F =>
    intro w mg fa h KX G hmg
    refine' K24.all_mk KX G hmg (Den.bl_all ?z0 ?z1 ?z2 ?z3 ?z4 ?z5 ?z6 ?z7 ?z8 ?z9 ?z10 ?z11 ?z12 ?z13 ?z14 ?z15 ?z16 ?z17 ?z18) (Den.defAt_mk ?q1 ?q2 ?q3 ?q4) (Den.defAt_mk ?q5 ?q6 ?q7 ?q8) (Den.defAt_mk ?q9 ?q10 ?q11 ?q12) (Den.defAt_mk ?q13 ?q14 ?q15 ?q16) (Den.defAt_mk ?q17 ?q18 ?q19 ?q20) (Den.defAt_mk ?q21 ?q22 ?q23 ?q24) (Den.defAt_mk ?q25 ?q26 ?q27 ?q28) (Den.defAt_mk ?q29 ?q30 ?q31 ?q32) (Den.defAt_mk ?q33 ?q34 ?q35 ?q36) (Den.defAt_mk ?q37 ?q38 ?q39 ?q40) (Den.defAt_mk ?q41 ?q42 ?q43 ?q44) (Den.defAt_mk ?q45 ?q46 ?q47 ?q48) (Den.defAt_mk ?q49 ?q50 ?q51 ?q52) (Den.defAt_mk ?q53 ?q54 ?q55 ?q56) (Den.defAt_mk ?q57 ?q58 ?q59 ?q60) (Den.defAt_mk ?q61 ?q62 ?q63 ?q64) (Den.defAt_mk ?q65 ?q66 ?q67 ?q68) (Den.defAt_mk ?q69 ?q70 ?q71 ?q72) (Den.defAt_mk ?q73 ?q74 ?q75 ?q76) (Den.defAt_mk ?q77 ?q78 ?q79 ?q80) (Den.defAt_mk ?q81 ?q82 ?q83 ?q84) (Den.defAt_mk ?q85 ?q86 ?q87 ?q88) (Den.defAt_mk ?q89 ?q90 ?q91 ?q92) (Den.defAt_mk ?q93 ?q94 ?q95 ?q96) (Den.defAt_mk ?q97 ?q98 ?q99 ?q100) (Den.defAt_mk ?q101 ?q102 ?q103 ?q104) (Den.defAt_mk ?q105 ?q106 ?q107 ?q108)
    (case q1 => k_is); (case q2 => k_is); (case q3 => k_is); (case q4 => k_is); (case q5 => k_is); (case q6 => k_is); (case q7 => k_is); (case q8 => k_is); (case q9 => k_is); (case q10 => k_is); (case q11 => k_is); (case q12 => k_is); (case q13 => k_is); (case q14 => k_is); (case q15 => k_is); (case q16 => k_is); (case q17 => k_is); (case q18 => k_is); (case q19 => k_is); (case q20 => k_is); (case q21 => k_is); (case q22 => k_is); (case q23 => k_is); (case q24 => k_is); (case q25 => k_is); (case q26 => k_is); (case q27 => k_is); (case q28 => k_is); (case q29 => k_is); (case q30 => k_is); (case q31 => k_is); (case q32 => k_is); (case q33 => k_is); (case q34 => k_is); (case q35 => k_is); (case q36 => k_is); (case q37 => k_is); (case q38 => k_is); (case q39 => k_is); (case q40 => k_is); (case q41 => k_is); (case q42 => k_is); (case q43 => k_is); (case q44 => k_is); (case q45 => k_is); (case q46 => k_is); (case q47 => k_is); (case q48 => k_is); (case q49 => k_is); (case q50 => k_is); (case q51 => k_is); (case q52 => k_is); (case q53 => k_is); (case q54 => k_is); (case q55 => k_is); (case q56 => k_is); (case q57 => k_is); (case q58 => k_is); (case q59 => k_is); (case q60 => k_is); (case q61 => k_is); (case q62 => k_is); (case q63 => k_is); (case q64 => k_is); (case q65 => k_is); (case q66 => k_is); (case q67 => k_is); (case q68 => k_is); (case q69 => k_is); (case q70 => k_is); (case q71 => k_is); (case q72 => k_is); (case q73 => k_is); (case q74 => k_is); (case q75 => k_is); (case q76 => k_is); (case q77 => k_is); (case q78 => k_is); (case q79 => k_is); (case q80 => k_is); (case q81 => k_is); (case q82 => k_is); (case q83 => k_is); (case q84 => k_is); (case q85 => k_is); (case q86 => k_is); (case q87 => k_is); (case q88 => k_is); (case q89 => k_is); (case q90 => k_is); (case q91 => k_is); (case q92 => k_is); (case q93 => k_is); (case q94 => k_is); (case q95 => k_is); (case q96 => k_is); (case q97 => k_is); (case q98 => k_is); (case q99 => k_is); (case q100 => k_is); (case q101 => k_is); (case q102 => k_is); (case q103 => k_is); (case q104 => k_is); (case q105 => k_is); (case q106 => k_is); (case q107 => k_is); (case q108 => k_is)
    (case z0 => k_is); (case z1 => k_is); (case z2 => k_is); (case z3 => k_is); (case z4 => k_is); (case z5 => k_is); (case z6 => k_is); (case z7 => k_is); (case z8 => k_is); (case z9 => k_is); (case z10 => k_is); (case z11 => k_is); (case z12 => k_is); (case z13 => k_is); (case z14 => k_is); (case z15 => k_is); (case z16 => k_is); (case z17 => k_is); (case z18 => k_is)
