import PyProof.Rows.All
import Wide.All
import OpenK.AllK
import Wide.FinOn
import HandS.ForMost
import HandS.ForExc
import HandS.Wide
import HandS.Gcd
import HandS.IsInst
import HandS.TupAny
import HandS.Small
import HandS.CallSlots
import HandS.SortInts
import KE.KMathGC
import PySem.Challenge.RW_millbench_k57_posterior_of_a_sample_in_t
section SPvA
set_option Elab.async false
set_option linter.all false
set_option maxRecDepth 100000
/-! A pure reading of the program: values without addresses for tuples, a small heap of numbered objects. -/
namespace Pv
open PySem L2

/-- a pure value: a tuple is its items; a list, a dict is a numbered object; rol: a list that nobody writes -/
inductive D where
  | non | bl (b : Bool) | int (i : Int) | str (x : Str) | tup (xs : List D) | obj (n : Nat) | rol (xs : List D)
/-- what stands at a number -/
inductive PO where
  | lst (xs : List D) | dk (kvs : List (Key × D))

inductive R (α : Type) where
  | ok (a : α) (G : List PO) | exc (c : Nat) (fs : List (Str × D)) (G : List PO) | bad

def R.bind {α β : Type} (r : R α) (f : α → List PO → R β) : R β := match r with
  | .ok a G => f a G
  | .exc c fs G => .exc c fs G
  | .bad => .bad
@[simp] theorem R.bind_ok {α β : Type} (a : α) (G : List PO) (f : α → List PO → R β) : (R.ok a G).bind f = f a G := (rfl)
@[simp] theorem R.bind_exc {α β : Type} (c : Nat) (fs : List (Str × D)) (G : List PO) (f : α → List PO → R β) : (R.exc c fs G).bind f = .exc c fs G := (rfl)
@[simp] theorem R.bind_bad {α β : Type} (f : α → List PO → R β) : (R.bad : R α).bind f = .bad := (rfl)

abbrev Env := List (Option D)

inductive Op where
  | add | sub | mul | fdiv | mod | pow
  deriving DecidableEq
inductive Cm where
  | eq | ne | lt | le | gt | ge
  deriving DecidableEq
inductive Ty where
  | int | bool | str | tuple | list | dict
  deriving DecidableEq
/-- the built-in functions -/
inductive Bl where
  | len | min2 | max2 | abs | int1 | tuple1 | list1 | sum | gcd | comb
  deriving DecidableEq
/-- the methods -/
inductive Mt where
  | append
  deriving DecidableEq

mutual
inductive IE where
  | var (i : Nat)
  | cst (d : D)
  | glb (g : Nat)
  | op (o : Op) (a b : IE)
  | neg (a : IE)
  | cmp (c : Cm) (a b : IE)
  | chain (c e : Cm) (x y z : IE)
  | isN (a : IE) | notN (a : IE)
  | and (a b : IE) | or (a b : IE) | not (a : IE)
  | ite (c a b : IE)
  | tup (es : IEs) | lst (es : IEs)
  | dct (es : IKs)
  | ix (a b : IE)
  | slc (a : IE) (lo hi : IO)
  | isI (a : IE) (t : Ty)
  | call (f : Nat) (es : IEs)
  | blt (b : Bl) (es : IEs)
  | mth (m : Mt) (o : IE) (es : IEs)
  | lc (elt : IE) (tg : IT) (it : II) (ifs : IEs) (own : List Nat)
inductive IO where
  | no | so (e : IE)
inductive IEs where
  | nil | cons (e : IE) (es : IEs)
inductive IKs where
  | nil | cons (k e : IE) (es : IKs)
inductive IT where
  | nm (i : Nat)
  | tp (ts : ITs)
  | sub (o i : IE)
inductive ITs where
  | nil | cons (t : IT) (ts : ITs)
inductive II where
  | val (e : IE)
  | rng1 (a : IE)
  | rng2 (a b : IE)
end

def ITs.len : ITs → Nat
  | .nil => 0
  | .cons _ ts => ts.len + 1

mutual
inductive IS where
  | asg (t : IT) (e : IE)
  | aug (i : Nat) (o : Op) (e : IE)
  | expr (e : IE)
  | ret (e : IE)
  | retN
  | ifs (c : IE) (a b : ISs)
  | fors (t : IT) (it : II) (b : ISs)
  | whil (c : IE) (b : ISs)
  | brk | cnt | pass
  | never
inductive ISs where
  | nil | cons (s : IS) (r : ISs)
end

/-! ### what the operations are worth -/
/-- * of two ints of which one is small, or both are not too long -/
def CMulA (i j : Int) : Prop := CMul i j ∨ CMulW i j
instance (i j : Int) : Decidable (CMulA i j) := by unfold CMulA CMul CMulW; infer_instance
instance (i j : Int) : Decidable (CPow i j) := by unfold CPow; infer_instance
instance (i j : Int) : Decidable (CDivW i j) := by unfold CDivW; infer_instance
open Classical in
noncomputable def opF (o : Op) (x y : D) (G : List PO) : R D := match o, x, y with
  | .add, .int a, .int b => .ok (.int (a + b)) G
  | .sub, .int a, .int b => .ok (.int (a - b)) G
  | .mul, .int a, .int b => if CMulA a b then .ok (.int (a * b)) G else .bad
  | .fdiv, .int a, .int b => if CDivW a b then .ok (.int (a / b)) G else .bad
  | .mod, .int a, .int b => if 0 < b then .ok (.int (a % b)) G else .bad
  | .pow, .int a, .int b => if CPow a b then .ok (.int (a ^ b.toNat)) G else .bad
  | .add, .str a, .str b => if a.length + b.length ≤ sizeLine then .ok (.str (a ++ b)) G else .bad
  | .add, .tup a, .tup b => if a.length + b.length ≤ sizeLine then .ok (.tup (a ++ b)) G else .bad
  | .add, .obj n, .obj m => match G[n]?, G[m]? with
    | some (.lst a), some (.lst b) => if a.length + b.length ≤ sizeLine then .ok (.obj G.length) (G ++ [.lst (a ++ b)]) else .bad
    | _, _ => .bad
  | _, _, _ => .bad
/-- == of two plain values -/
def eqS : D → D → Option Bool
  | .int a, .int b => some (decide (a = b))
  | .bl a, .bl b => some (decide (a = b))
  | .str a, .str b => some (decide (a = b))
  | .non, .non => some true
  | .non, .int _ => some false
  | .int _, .non => some false
  | .non, .bl _ => some false
  | .bl _, .non => some false
  | .non, .str _ => some false
  | .str _, .non => some false
  | .int _, .str _ => some false
  | .str _, .int _ => some false
  | .bl _, .str _ => some false
  | .str _, .bl _ => some false
  | _, _ => none
def cmF (c : Cm) (x y : D) : Option Bool := match c with
  | .eq => eqS x y
  | .ne => (eqS x y).map (! ·)
  | .lt => match x, y with | .int a, .int b => some (decide (a < b)) | .str a, .str b => some (decide (a.cps.toList < b.cps.toList)) | _, _ => none
  | .le => match x, y with | .int a, .int b => some (decide (a ≤ b)) | _, _ => none
  | .gt => match x, y with | .int a, .int b => some (decide (b < a)) | _, _ => none
  | .ge => match x, y with | .int a, .int b => some (decide (b ≤ a)) | _, _ => none
def okB (o : Option Bool) (G : List PO) : R D := match o with
  | some b => .ok (.bl b) G
  | none => .bad
/-- the items of a list or a tuple -/
def seqF (x : D) (G : List PO) : Option (List D) := match x with
  | .tup xs => some xs
  | .rol xs => some xs
  | .obj n => match G[n]? with | some (.lst xs) => some xs | _ => none
  | _ => none
def keyF : D → Option Key
  | .int i => some (.inl i)
  | .str s => some (.inr s)
  | _ => none
/-- a dict's entry -/
def getK {β : Type} (kvs : List (Key × β)) (k : Key) : Option β := (kvs.find? fun kv => decide (kv.1 = k)).map (·.2)
def setK {β : Type} (kvs : List (Key × β)) (k : Key) (v : β) : List (Key × β) :=
  if (kvs.any fun kv => decide (kv.1 = k)) = true then kvs.map (fun kv => if kv.1 = k then (kv.1, v) else kv) else kvs ++ [(k, v)]
def okO (o : Option D) (G : List PO) : R D := match o with
  | some b => .ok b G
  | none => .bad
def ixF (x y : D) (G : List PO) : R D := match x with
  | .tup xs => match y with | .int i => okO (atI xs i) G | _ => .bad
  | .rol xs => match y with | .int i => okO (atI xs i) G | _ => .bad
  | .obj n => match G[n]? with
    | some (.lst xs) => match y with | .int i => okO (atI xs i) G | _ => .bad
    | some (.dk kvs) => match keyF y with | some k => okO (getK kvs k) G | none => .bad
    | none => .bad
  | _ => .bad
def cutF (xs : List D) (lo hi : Option Int) : List D := (xs.drop (HT.sIx xs.length 0 lo)).take (HT.sIx xs.length xs.length hi - HT.sIx xs.length 0 lo)
def slF (x : D) (lo hi : Option Int) (G : List PO) : R D := match x with
  | .tup xs => .ok (.tup (cutF xs lo hi)) G
  | .obj n => match G[n]? with
    | some (.lst xs) => .ok (.obj G.length) (G ++ [.lst (cutF xs lo hi)])
    | _ => .bad
  | _ => .bad
def isF (x : D) (t : Ty) (G : List PO) : Option Bool := match x with
  | .int _ => some (decide (t = .int))
  | .bl _ => some (decide (t = .int) || decide (t = .bool))
  | .str _ => some (decide (t = .str))
  | .non => some false
  | .tup _ => some (decide (t = .tuple))
  | .rol _ => none
  | .obj n => match G[n]? with
    | some (.lst _) => some (decide (t = .list))
    | some (.dk _) => some (decide (t = .dict))
    | none => none
def intsOf : List D → Option (List Int)
  | [] => some []
  | .int i :: r => (intsOf r).map (i :: ·)
  | _ :: _ => none
open Classical in
noncomputable def bltF (b : Bl) (xs : List D) (G : List PO) : R D := match b, xs with
  | .len, [x] => match seqF x G with | some l => .ok (.int l.length) G | none => .bad
  | .min2, [.int a, .int b] => .ok (.int (if b < a then b else a)) G
  | .max2, [.int a, .int b] => .ok (.int (if b > a then b else a)) G
  | .abs, [.int a] => .ok (.int (if a < 0 then -a else a)) G
  | .int1, [.int a] => .ok (.int a) G
  | .int1, [.bl k] => .ok (.int (if k then 1 else 0)) G
  | .tuple1, [x] => match seqF x G with | some l => .ok (.tup l) G | none => .bad
  | .list1, [x] => match seqF x G with | some l => .ok (.obj G.length) (G ++ [.lst l]) | none => .bad
  | .sum, [.obj n] => match G[n]? with | some (.lst l) => (match intsOf l with | some ns => .ok (.int ns.sum) G | none => .bad) | _ => .bad
  | .gcd, [.int a, .int b] => .ok (.int ((Nat.gcd a.natAbs b.natAbs : Nat) : Int)) G
  | .comb, [.int a, .int b] => if 0 ≤ a ∧ 0 ≤ b ∧ a ≤ 18000 then .ok (.int (PySem.W.mcComb a b)) G else .bad
  | _, _ => .bad
def mthF (m : Mt) (x : D) (xs : List D) (G : List PO) : R D := match m, x, xs with
  | .append, .obj n, [y] => match G[n]? with
    | some (.lst l) => if l.length < sizeLine then .ok .non (G.set n (.lst (l ++ [y]))) else .bad
    | _ => .bad
  | _, _, _ => .bad
/-- the receiver's kind, ahead of the arguments -/
def mtOk (m : Mt) (x : D) (G : List PO) : Bool := match m, x with
  | .append, .obj n => match G[n]? with | some (.lst _) => true | _ => false
  | _, _ => false
def setF (x y v : D) (G : List PO) : R Unit := match x with
  | .obj n => match G[n]? with
    | some (.lst xs) => match y with
      | .int i => match ixN xs.length i with | some j => .ok () (G.set n (.lst (xs.set j v))) | none => .bad
      | _ => .bad
    | some (.dk kvs) => match keyF y with
      | some k => if kvs.length < sizeLine then .ok () (G.set n (.dk (setK kvs k v))) else .bad
      | none => .bad
    | none => .bad
  | _ => .bad
/-- what a for walks: the object it must not see changed, the items -/
abbrev Src := Option Nat × List D
def srcF (x : D) (G : List PO) : Option Src := match x with
  | .tup xs => some (none, xs)
  | .rol xs => some (none, xs)
  | .obj n => match G[n]? with | some (.lst xs) => some (some n, xs) | _ => none
  | _ => none
def rngF (lo hi : Int) : List D := (List.range (hi - lo).toNat).map fun (i : Nat) => D.int (lo + i)
def Src.Ok (s : Src) (G : List PO) : Prop := match s.1 with
  | none => True
  | some n => G[n]? = some (.lst s.2)
@[simp] theorem Src.ok_none {xs : List D} {G : List PO} : Src.Ok (none, xs) G = True := rfl
@[simp] theorem Src.ok_some {xs : List D} {G : List PO} {n : Nat} : Src.Ok (some n, xs) G = (G[n]? = some (.lst xs)) := rfl

def augF : Op → Int → Int → Option Int
  | .add, a, b => some (a + b)
  | .sub, a, b => some (a - b)
  | _, _, _ => none

inductive Out where
  | nx (e : Env) | rt (d : D) | bk (e : Env) | ct (e : Env)

open Classical in
noncomputable def forL (src : Src) (body : D → Env → List PO → R Out) : List D → Env → List PO → R Out
  | [], env, G => if src.Ok G then .ok (.nx env) G else .bad
  | x :: xs, env, G => if src.Ok G then (body x env G).bind fun o G1 => match o with
      | .nx e => forL src body xs e G1
      | .ct e => forL src body xs e G1
      | .bk e => .ok (.nx e) G1
      | .rt d => .ok (.rt d) G1
    else .bad
open Classical in
noncomputable def lcL (src : Src) (turn : D → List PO → R (Option D)) : List D → List PO → R (List D)
  | [], G => if src.Ok G then .ok [] G else .bad
  | x :: xs, G => if src.Ok G then (turn x G).bind fun o G1 => (lcL src turn xs G1).bind fun ys G2 => .ok (o.toList ++ ys) G2 else .bad
def whileL (test : Env → List PO → R Bool) (body : Env → List PO → R Out) : Nat → Env → List PO → R Out
  | 0, _, _ => .bad
  | n + 1, env, G => (test env G).bind fun b G1 => if b = true then (body env G1).bind fun o G2 => match o with
      | .nx e => whileL test body n e G2
      | .ct e => whileL test body n e G2
      | .bk e => .ok (.nx e) G2
      | .rt d => .ok (.rt d) G2
    else .ok (.nx env) G1
def fuel : Nat := 1000000
def wipeE (env : Env) : List Nat → Env
  | [] => env
  | v :: vs => (wipeE env vs).set v none
def boolR (r : R D) : R Bool := r.bind fun d G => match d with | .bl b => .ok b G | _ => .bad
def noExc {α : Type} (r : R α) : R α := match r with | .exc _ _ _ => .bad | r => r

/-! ### what the expressions are worth -/
abbrev Den := List D → List PO → R D
section
variable (ρ : Nat → Den) (γ : Nat → D)
mutual
noncomputable def evE : IE → Env → List PO → R D
  | .var i => fun env G => match env[i]? with | some (some d) => .ok d G | _ => .bad
  | .cst d => fun _ G => .ok d G
  | .glb g => fun _ G => .ok (γ g) G
  | .op o a b => fun env G => (evE a env G).bind fun x G1 => (evE b env G1).bind fun y G2 => opF o x y G2
  | .neg a => fun env G => (evE a env G).bind fun x G1 => match x with | .int i => .ok (.int (-i)) G1 | _ => .bad
  | .cmp c a b => fun env G => (evE a env G).bind fun x G1 => (evE b env G1).bind fun y G2 => okB (cmF c x y) G2
  | .chain c e x y z => fun env G => (evE x env G).bind fun u G1 => (evE y env G1).bind fun v G2 => match cmF c u v with
      | some true => (evE z env G2).bind fun w G3 => okB (cmF e v w) G3
      | some false => .ok (.bl false) G2
      | none => .bad
  | .isN a => fun env G => (evE a env G).bind fun x G1 => .ok (.bl (match x with | .non => true | _ => false)) G1
  | .notN a => fun env G => (evE a env G).bind fun x G1 => .ok (.bl (match x with | .non => false | _ => true)) G1
  | .and a b => fun env G => (boolR (evE a env G)).bind fun c G1 => if c = true then boolR (evE b env G1) |>.bind fun c G2 => .ok (.bl c) G2 else .ok (.bl false) G1
  | .or a b => fun env G => (boolR (evE a env G)).bind fun c G1 => if c = true then .ok (.bl true) G1 else boolR (evE b env G1) |>.bind fun c G2 => .ok (.bl c) G2
  | .not a => fun env G => (boolR (evE a env G)).bind fun c G1 => .ok (.bl (!c)) G1
  | .ite c a b => fun env G => (boolR (evE c env G)).bind fun k G1 => if k = true then evE a env G1 else evE b env G1
  | .tup es => fun env G => (evEs es env G).bind fun xs G1 => if xs.length ≤ sizeLine then .ok (.tup xs) G1 else .bad
  | .lst es => fun env G => (evEs es env G).bind fun xs G1 => if xs.length ≤ sizeLine then .ok (.obj G1.length) (G1 ++ [.lst xs]) else .bad
  | .dct es => fun env G => (evK es env G).bind fun kvs G1 => if kvs.length ≤ 15 then .ok (.obj G1.length) (G1 ++ [.dk (kvs.foldl (fun d (kv : Key × D) => setK d kv.1 kv.2) [])]) else .bad
  | .ix a b => fun env G => (evE a env G).bind fun x G1 => (evE b env G1).bind fun y G2 => ixF x y G2
  | .slc a lo hi => fun env G => (evE a env G).bind fun x G1 => (evO lo env G1).bind fun l G2 => (evO hi env G2).bind fun h G3 => slF x l h G3
  | .isI a t => fun env G => (evE a env G).bind fun x G1 => okB (isF x t G1) G1
  | .call f es => fun env G => (evEs es env G).bind fun xs G1 => ρ f xs G1
  | .blt b es => fun env G => (evEs es env G).bind fun xs G1 => bltF b xs G1
  | .mth m o es => fun env G => (evE o env G).bind fun x G1 => if mtOk m x G1 = true then (evEs es env G1).bind fun xs G2 => mthF m x xs G2 else .bad
  | .lc elt tg it ifs own => fun env G => (evI it env G).bind fun src G1 => if src.2.length ≤ sizeLine then
      (noExc (lcL src (fun x G => (asT tg x (wipeE env own) G).bind fun env2 G2 => (evA ifs env2 G2).bind fun b G3 => if b = true then (evE elt env2 G3).bind fun y G4 => .ok (some y) G4 else .ok none G3) src.2 G1)).bind
        fun ys G2 => .ok (.obj G2.length) (G2 ++ [.lst ys])
      else .bad
noncomputable def evO : IO → Env → List PO → R (Option Int)
  | .no => fun _ G => .ok none G
  | .so e => fun env G => (evE e env G).bind fun x G1 => match x with | .int i => .ok (some i) G1 | _ => .bad
noncomputable def evEs : IEs → Env → List PO → R (List D)
  | .nil => fun _ G => .ok [] G
  | .cons e es => fun env G => (evE e env G).bind fun x G1 => (evEs es env G1).bind fun xs G2 => .ok (x :: xs) G2
noncomputable def evK : IKs → Env → List PO → R (List (Key × D))
  | .nil => fun _ G => .ok [] G
  | .cons k e es => fun env G => (evE k env G).bind fun y G1 => (evE e env G1).bind fun x G2 => match keyF y with
      | some z => (evK es env G2).bind fun r G3 => .ok ((z, x) :: r) G3
      | none => .bad
/-- all the tests of a comprehension -/
noncomputable def evA : IEs → Env → List PO → R Bool
  | .nil => fun _ G => .ok true G
  | .cons e es => fun env G => (boolR (evE e env G)).bind fun b G1 => if b = true then evA es env G1 else .ok false G1
noncomputable def evI : II → Env → List PO → R Src
  | .val e => fun env G => (evE e env G).bind fun x G1 => match srcF x G1 with | some s => .ok s G1 | none => .bad
  | .rng1 a => fun env G => (evE a env G).bind fun x G1 => match x with
      | .int j => if -(2 ^ 62) ≤ j ∧ j < 2 ^ 62 then .ok (none, rngF 0 j) G1 else .bad
      | _ => .bad
  | .rng2 a b => fun env G => (evE a env G).bind fun x G1 => (evE b env G1).bind fun y G2 => match x, y with
      | .int i, .int j => if -(2 ^ 62) ≤ i ∧ i < 2 ^ 62 ∧ -(2 ^ 62) ≤ j ∧ j < 2 ^ 62 then .ok (none, rngF i j) G2 else .bad
      | _, _ => .bad
noncomputable def asT : IT → D → Env → List PO → R Env
  | .nm i => fun d env G => .ok (env.set i (some d)) G
  | .tp ts => fun d env G => match d with | .tup xs => if xs.length = ts.len then asTs ts xs env G else .bad | _ => .bad
  | .sub o i => fun d env G => (evE o env G).bind fun x G1 => (evE i env G1).bind fun y G2 => (setF x y d G2).bind fun _ G3 => .ok env G3
noncomputable def asTs : ITs → List D → Env → List PO → R Env
  | .nil => fun xs env G => match xs with | [] => .ok env G | _ => .bad
  | .cons t ts => fun xs env G => match xs with | x :: r => (asT t x env G).bind fun env1 G1 => asTs ts r env1 G1 | [] => .bad
end

mutual
noncomputable def evS : IS → Env → List PO → R Out
  | .asg t e => fun env G => (evE ρ γ e env G).bind fun x G1 => (asT ρ γ t x env G1).bind fun env1 G2 => .ok (.nx env1) G2
  | .aug i o e => fun env G => match env[i]? with
      | some (some x) => (evE ρ γ e env G).bind fun y G1 => match x, y with
        | .int a, .int b => match augF o a b with | some c => .ok (.nx (env.set i (some (.int c)))) G1 | none => .bad
        | _, _ => .bad
      | _ => .bad
  | .expr e => fun env G => (evE ρ γ e env G).bind fun _ G1 => .ok (.nx env) G1
  | .ret e => fun env G => (evE ρ γ e env G).bind fun x G1 => .ok (.rt x) G1
  | .retN => fun _ G => .ok (.rt .non) G
  | .ifs c a b => fun env G => (boolR (evE ρ γ c env G)).bind fun k G1 => if k = true then evSs a env G1 else evSs b env G1
  | .fors t it b => fun env G => (evI ρ γ it env G).bind fun src G1 => forL src (fun x e G => (asT ρ γ t x e G).bind fun e1 G1 => evSs b e1 G1) src.2 env G1
  | .whil c b => fun env G => whileL (fun e G => boolR (evE ρ γ c e G)) (fun e G => evSs b e G) fuel env G
  | .brk => fun env G => .ok (.bk env) G
  | .cnt => fun env G => .ok (.ct env) G
  | .pass => fun env G => .ok (.nx env) G
  | .never => fun _ _ => .bad
noncomputable def evSs : ISs → Env → List PO → R Out
  | .nil => fun env G => .ok (.nx env) G
  | .cons s r => fun env G => (evS s env G).bind fun o G1 => match o with | .nx e => evSs r e G1 | o => .ok o G1
end
end

/-- a def: how many parameters, how many names, the body -/
structure IDef where
  np : Nat
  ns : Nat
  body : ISs
noncomputable def callD (ρ : Nat → Den) (γ : Nat → D) (d : IDef) : Den := fun ds G => if ds.length = d.np then
    (evSs ρ γ d.body (ds.map some ++ List.replicate (d.ns - d.np) none) G).bind fun o G1 => match o with
      | .rt x => .ok x G1
      | .nx _ => .ok .non G1
      | _ => .bad
  else .bad
/-- the defs of a program, n calls deep -/
noncomputable def tab (defs : Nat → Option IDef) (γ : Nat → D) : Nat → Nat → Den
  | 0, _ => fun _ _ => .bad
  | n + 1, f => match defs f with
    | some d => callD (tab defs γ n) γ d
    | none => fun _ _ => .bad
end Pv
end SPvA
section SPvB
set_option Elab.async false
set_option linter.all false
set_option maxRecDepth 100000
/-! How a pure value lies in the machine's abstract heap. -/
namespace Pv
open PySem L2

/-- θ: where the numbered objects stand; what comes later keeps what is not of ours, and takes new places only -/
structure Fut (θ : List Addr) (H : Hp) (θ' : List Addr) (H' : Hp) : Prop where
  pre : ∃ t, θ' = θ ++ t
  new : ∀ a ∈ θ', a ∈ θ ∨ H a = none
  fr : ∀ a o, H a = some o → a ∉ θ → H' a = some o
theorem Fut.refl (θ : List Addr) (H : Hp) : Fut θ H θ H := ⟨⟨[], by simp⟩, fun _ h => .inl h, fun _ _ h _ => h⟩
theorem Fut.trans {θ θ1 θ2 : List Addr} {H H1 H2 : Hp} (a : Fut θ H θ1 H1) (b : Fut θ1 H1 θ2 H2) : Fut θ H θ2 H2 := by
  obtain ⟨t, e⟩ := a.pre
  obtain ⟨u, e2⟩ := b.pre
  have out : ∀ x o, H x = some o → x ∉ θ → x ∉ θ1 := fun x o h hn hm => by
    rcases a.new x hm with z | z
    · exact hn z
    · rw [h] at z; cases z
  refine ⟨⟨t ++ u, by rw [e2, e, List.append_assoc]⟩, fun x hx => ?_, fun x o h hn => b.fr x o (a.fr x o h hn) (out x o h hn)⟩
  rcases b.new x hx with z | z
  · exact a.new x z
  · by_cases hm : x ∈ θ
    · exact .inl hm
    · cases q : H x with
      | none => exact .inr rfl
      | some o => rw [a.fr x o q hm] at z; cases z
theorem Fut.get {θ θ' : List Addr} {H H' : Hp} (f : Fut θ H θ' H') {n : Nat} {a : Addr} (h : θ[n]? = some a) : θ'[n]? = some a := by
  obtain ⟨t, e⟩ := f.pre
  rw [e, List.getElem?_append_left (List.getElem?_eq_some_iff.mp h).1]; exact h
theorem Fut.out {θ θ' : List Addr} {H H' : Hp} (f : Fut θ H θ' H') {a : Addr} {o : HO} (h : H a = some o) (hn : a ∉ θ) : a ∉ θ' := fun hm => by
  rcases f.new a hm with z | z
  · exact hn z
  · rw [h] at z; cases z

/-- a list that nobody writes -/
def SqR (K : PySem.W.Frag) (H : Hp) (a : Addr) (vs : List V) : Prop :=
  (∃ o, H a = some (.frz o (.lst vs))) ∨ ∀ H', SqL K H' a vs
theorem SqR.sq {K : PySem.W.Frag} {H : Hp} {a : Addr} {vs : List V} (h : SqR K H a vs) : SqL K H a vs := by
  rcases h with ⟨o, h⟩ | h
  · exact .inl (.inr ⟨o, h⟩)
  · exact h H
theorem Rd.out {H : Hp} {a : Addr} {o : HO} (h : Rd H a o) : ∃ u, H a = some u := by
  rcases h with h | ⟨_, h⟩
  · exact ⟨_, h⟩
  · exact ⟨_, h⟩
theorem Fut.rd {θ θ' : List Addr} {H H' : Hp} (f : Fut θ H θ' H') {a : Addr} {o : HO} (h : Rd H a o) (hn : a ∉ θ) : Rd H' a o := by
  rcases h with h | ⟨u, h⟩
  · exact .inl (f.fr _ _ h hn)
  · exact .inr ⟨u, f.fr _ _ h hn⟩

/-- how a pure value lies -/
inductive RV (K : PySem.W.Frag) (H : Hp) (θ : List Addr) : D → V → Prop
  | non : RV K H θ .non .non
  | bl (b : Bool) : RV K H θ (.bl b) (.bl b)
  | int (i : Int) : RV K H θ (.int i) (.int i)
  | str (x : Str) : RV K H θ (.str x) (.str x)
  | tup {a : Addr} {xs : List D} {vs : List V} (h : SqT K H a vs) (hl : vs.length = xs.length) (r : ∀ (i : Nat) (d : D) (v : V), xs[i]? = some d → vs[i]? = some v → RV K H θ d v) : RV K H θ (.tup xs) (.ref a)
  | rol {a : Addr} {xs : List D} {vs : List V} (h : SqR K H a vs) (hl : vs.length = xs.length) (r : ∀ (i : Nat) (d : D) (v : V), xs[i]? = some d → vs[i]? = some v → RV K H θ d v) : RV K H θ (.rol xs) (.ref a)
  | obj {n : Nat} {a : Addr} (h : θ[n]? = some a) : RV K H θ (.obj n) (.ref a)
abbrev RVs (K : PySem.W.Frag) (H : Hp) (θ : List Addr) : List D → List V → Prop := Paired (RV K H θ)
theorem paired_ix {α β : Type} {F : α → β → Prop} : ∀ {xs : List α} {ys : List β}, ys.length = xs.length → (∀ (i : Nat) (x : α) (y : β), xs[i]? = some x → ys[i]? = some y → F x y) → Paired F xs ys
  | [], [], _, _ => .nil
  | x :: xs, y :: ys, h, f => .cons (f 0 x y rfl rfl) (paired_ix (by simpa using h) fun i a b h1 h2 => f (i + 1) a b (by simpa using h1) (by simpa using h2))
  | [], _ :: _, h, _ => by simp at h
  | _ :: _, [], h, _ => by simp at h
theorem ix_paired {α β : Type} {F : α → β → Prop} : ∀ {xs : List α} {ys : List β}, Paired F xs ys → ∀ (i : Nat) (x : α) (y : β), xs[i]? = some x → ys[i]? = some y → F x y
  | _, _, .nil, i, x, y, h, _ => by simp at h
  | _, _, .cons r t, 0, x, y, h1, h2 => by simp at h1 h2; subst h1; subst h2; exact r
  | _, _, .cons r t, i + 1, x, y, h1, h2 => ix_paired t i x y (by simpa using h1) (by simpa using h2)
theorem RV.tup' {K : PySem.W.Frag} {H : Hp} {θ : List Addr} {a : Addr} {xs : List D} {vs : List V} (h : SqT K H a vs) (r : RVs K H θ xs vs) : RV K H θ (.tup xs) (.ref a) := .tup h (Paired.length r).symm (ix_paired r)
theorem RV.tup_inv {K : PySem.W.Frag} {H : Hp} {θ : List Addr} {xs : List D} {v : V} (h : RV K H θ (.tup xs) v) : ∃ a vs, v = .ref a ∧ SqT K H a vs ∧ RVs K H θ xs vs := by
  cases h with
  | tup h hl r => exact ⟨_, _, rfl, h, paired_ix hl r⟩
theorem RV.rol_inv {K : PySem.W.Frag} {H : Hp} {θ : List Addr} {xs : List D} {v : V} (h : RV K H θ (.rol xs) v) : ∃ a vs, v = .ref a ∧ SqR K H a vs ∧ RVs K H θ xs vs := by
  cases h with
  | rol h hl r => exact ⟨_, _, rfl, h, paired_ix hl r⟩
theorem RV.obj_inv {K : PySem.W.Frag} {H : Hp} {θ : List Addr} {n : Nat} {v : V} (h : RV K H θ (.obj n) v) : ∃ a, v = .ref a ∧ θ[n]? = some a := by
  cases h with
  | obj h => exact ⟨_, rfl, h⟩
theorem RV.int_inv {K : PySem.W.Frag} {H : Hp} {θ : List Addr} {i : Int} {v : V} (h : RV K H θ (.int i) v) : v = .int i := by cases h; rfl
theorem RV.bl_inv {K : PySem.W.Frag} {H : Hp} {θ : List Addr} {i : Bool} {v : V} (h : RV K H θ (.bl i) v) : v = .bl i := by cases h; rfl
theorem RV.str_inv {K : PySem.W.Frag} {H : Hp} {θ : List Addr} {i : Str} {v : V} (h : RV K H θ (.str i) v) : v = .str i := by cases h; rfl
theorem RV.non_inv {K : PySem.W.Frag} {H : Hp} {θ : List Addr} {v : V} (h : RV K H θ .non v) : v = .non := by cases h; rfl

abbrev RKs (K : PySem.W.Frag) (H : Hp) (θ : List Addr) : List (Key × D) → List (Key × V) → Prop := Paired fun p q => p.1 = q.1 ∧ RV K H θ p.2 q.2
abbrev RFs (K : PySem.W.Frag) (H : Hp) (θ : List Addr) : List (Str × D) → List (Str × V) → Prop := Paired fun p q => p.1 = q.1 ∧ RV K H θ p.2 q.2
/-- how an object lies -/
def RO (K : PySem.W.Frag) (H : Hp) (θ : List Addr) (a : Addr) : PO → Prop
  | .lst xs => ∃ vs, H a = some (.lst vs) ∧ RVs K H θ xs vs
  | .dk kvs => ∃ ks, H a = some (.dK ks) ∧ RKs K H θ kvs ks
structure SR (K : PySem.W.Frag) (θ : List Addr) (G : List PO) (H : Hp) : Prop where
  len : θ.length = G.length
  nd : θ.Nodup
  obj : ∀ (n : Nat) (a : Addr) (o : PO), θ[n]? = some a → G[n]? = some o → RO K H θ a o
section
variable {K : PySem.W.Frag} {H H' : Hp} {θ θ' : List Addr} {G G' : List PO}
theorem SR.at (S : SR K θ G H) {n : Nat} {a : Addr} (h : θ[n]? = some a) : ∃ o, G[n]? = some o ∧ RO K H θ a o := by
  have hn : n < G.length := by rw [← S.len]; exact (List.getElem?_eq_some_iff.mp h).1
  exact ⟨G[n], List.getElem?_eq_getElem hn, S.obj n a _ h (List.getElem?_eq_getElem hn)⟩
theorem SR.addr (S : SR K θ G H) {n : Nat} {o : PO} (h : G[n]? = some o) : ∃ a, θ[n]? = some a ∧ RO K H θ a o := by
  have hn : n < θ.length := by rw [S.len]; exact (List.getElem?_eq_some_iff.mp h).1
  exact ⟨θ[n], List.getElem?_eq_getElem hn, S.obj n _ _ (List.getElem?_eq_getElem hn) h⟩
theorem SR.mem (S : SR K θ G H) {a : Addr} (h : a ∈ θ) : ∃ o, RO K H θ a o := by
  obtain ⟨n, hn, e⟩ := List.getElem_of_mem h
  obtain ⟨o, _, r⟩ := S.at (n := n) (a := a) (by rw [List.getElem?_eq_getElem hn, e])
  exact ⟨o, r⟩
theorem SR.kind (S : SR K θ G H) {a : Addr} (h : a ∈ θ) : (∃ vs, H a = some (.lst vs)) ∨ ∃ ks, H a = some (.dK ks) := by
  obtain ⟨o, r⟩ := S.mem h
  cases o with
  | lst xs => obtain ⟨vs, e, _⟩ := r; exact .inl ⟨vs, e⟩
  | dk kvs => obtain ⟨ks, e, _⟩ := r; exact .inr ⟨ks, e⟩
theorem SR.has (S : SR K θ G H) {a : Addr} (h : a ∈ θ) : ∃ o, H a = some o := by
  rcases S.kind h with ⟨vs, e⟩ | ⟨ks, e⟩
  · exact ⟨_, e⟩
  · exact ⟨_, e⟩
theorem SR.free (S : SR K θ G H) {p : Addr} (h : H p = none) : p ∉ θ := fun hm => by
  obtain ⟨o, e⟩ := S.has hm
  rw [h] at e; cases e
theorem SR.rdT (S : SR K θ G H) {a : Addr} {xs : List V} (h : Rd H a (.tup xs)) : a ∉ θ := fun hm => by
  rcases S.kind hm with ⟨vs, e⟩ | ⟨ks, e⟩ <;> (rcases h with h | ⟨_, h⟩ <;> (rw [h] at e; cases e))
theorem SR.sqT (S : SR K θ G H) (f : Fut θ H θ' H') {a : Addr} {xs : List V} (h : SqT K H a xs) : SqT K H' a xs := by
  rcases h with h | h
  · exact .inl (f.rd h (S.rdT h))
  · exact .inr h
theorem SR.sqR (S : SR K θ G H) (f : Fut θ H θ' H') {a : Addr} {xs : List V} (h : SqR K H a xs) : SqR K H' a xs := by
  rcases h with ⟨o, h⟩ | h
  · refine .inl ⟨o, f.fr _ _ h fun hm => ?_⟩
    rcases S.kind hm with ⟨vs, e⟩ | ⟨ks, e⟩ <;> (rw [h] at e; cases e)
  · exact .inr h
theorem RV.mono (S : SR K θ G H) (f : Fut θ H θ' H') {d : D} {v : V} (r : RV K H θ d v) : RV K H' θ' d v := by
  induction r with
  | non => exact .non
  | bl b => exact .bl b
  | int i => exact .int i
  | str x => exact .str x
  | tup h hl r ih => exact .tup (S.sqT f h) hl ih
  | rol h hl r ih => exact .rol (S.sqR f h) hl ih
  | obj h => exact .obj (f.get h)
theorem RVs.mono (S : SR K θ G H) (f : Fut θ H θ' H') {ds : List D} {vs : List V} (r : RVs K H θ ds vs) : RVs K H' θ' ds vs := Paired.mapP r fun _ _ h => h.mono S f
theorem RKs.mono (S : SR K θ G H) (f : Fut θ H θ' H') {ds : List (Key × D)} {vs : List (Key × V)} (r : RKs K H θ ds vs) : RKs K H' θ' ds vs := Paired.mapP r fun _ _ h => ⟨h.1, h.2.mono S f⟩
theorem RFs.mono (S : SR K θ G H) (f : Fut θ H θ' H') {ds : List (Str × D)} {vs : List (Str × V)} (r : RFs K H θ ds vs) : RFs K H' θ' ds vs := Paired.mapP r fun _ _ h => ⟨h.1, h.2.mono S f⟩
/-- an object that stands as it stood -/
theorem RO.mono (S : SR K θ G H) (f : Fut θ H θ' H') {a : Addr} {o : PO} (e : H' a = H a) (r : RO K H θ a o) : RO K H' θ' a o := by
  cases o with
  | lst xs => obtain ⟨vs, h, r⟩ := r; exact ⟨vs, e.trans h, r.mono S f⟩
  | dk kvs => obtain ⟨ks, h, r⟩ := r; exact ⟨ks, e.trans h, r.mono S f⟩
/-- a new thing that is not numbered -/
theorem Fut.new1 {p : Addr} {o : HO} (h : H p = none) : Fut θ H θ (upd H p o) := ⟨⟨[], by simp⟩, fun _ h => .inl h, fun a u e _ => by rw [upd_ne (ne_of_none e h)]; exact e⟩
theorem SR.new1 (S : SR K θ G H) {p : Addr} {o : HO} (h : H p = none) : SR K θ G (upd H p o) :=
  ⟨S.len, S.nd, fun n a u h1 h2 => RO.mono S (Fut.new1 h) (upd_ne fun e => by
    have hm : a ∈ θ := List.mem_of_getElem? h1
    rw [e] at hm
    exact S.free h hm) (S.obj n a u h1 h2)⟩
/-- a new numbered object -/
theorem Fut.alloc {p : Addr} {o : HO} (h : H p = none) : Fut θ H (θ ++ [p]) (upd H p o) := ⟨⟨[p], rfl⟩, fun a hm => by
  rcases List.mem_append.mp hm with z | z
  · exact .inl z
  · have e : a = p := by simpa using z
    rw [e]; exact .inr h, fun a u e _ => by rw [upd_ne (ne_of_none e h)]; exact e⟩
theorem SR.alloc (S : SR K θ G H) {p : Addr} {ho : HO} {o : PO} (h : H p = none) (r : RO K (upd H p ho) (θ ++ [p]) p o) : SR K (θ ++ [p]) (G ++ [o]) (upd H p ho) := by
  refine ⟨by simp [S.len], ?_, fun n a u h1 h2 => ?_⟩
  · rw [List.nodup_append]
    refine ⟨S.nd, by simp, fun a ha b hb e => ?_⟩
    have e2 : b = p := by simpa using hb
    subst e2
    subst e
    exact S.free h ha
  · by_cases hn : n < θ.length
    · rw [List.getElem?_append_left hn] at h1
      rw [List.getElem?_append_left (by rw [← S.len]; exact hn)] at h2
      exact RO.mono S (Fut.alloc h) (upd_ne fun e => by
        have hm : a ∈ θ := List.mem_of_getElem? h1
        rw [e] at hm
        exact S.free h hm) (S.obj n a u h1 h2)
    · have hl := (List.getElem?_eq_some_iff.mp h1).1
      have en : n = θ.length := by simp at hl; omega
      subst en
      have e1 : p = a := by simpa using h1
      have e2 : o = u := by rw [S.len] at h2; simpa using h2
      subst e1
      subst e2
      exact r
theorem SR.allocAt (S : SR K θ G H) {p : Addr} : (θ ++ [p])[G.length]? = Option.some p := by rw [← S.len]; simp
/-- a numbered object written -/
theorem Fut.wr {n : Nat} {a : Addr} {o : HO} (h : θ[n]? = some a) : Fut θ H θ (upd H a o) := ⟨⟨[], by simp⟩, fun _ h => .inl h, fun b u e hb => by
  rw [upd_ne fun z => hb (by rw [z]; exact List.mem_of_getElem? h)]; exact e⟩
theorem SR.wr (S : SR K θ G H) {n : Nat} {a : Addr} {ho : HO} {o : PO} (h : θ[n]? = some a) (r : RO K (upd H a ho) θ a o) : SR K θ (G.set n o) (upd H a ho) := by
  refine ⟨by simp [S.len], S.nd, fun m b u h1 h2 => ?_⟩
  have hn : n < G.length := by rw [← S.len]; exact (List.getElem?_eq_some_iff.mp h).1
  by_cases e : m = n
  · subst e
    rw [h] at h1
    cases h1
    rw [List.getElem?_set_self hn] at h2
    cases h2
    exact r
  · rw [List.getElem?_set_ne (Ne.symm e)] at h2
    refine RO.mono S (Fut.wr h) (upd_ne fun z => ?_) (S.obj m b u h1 h2)
    subst z
    obtain ⟨l1, e1⟩ := List.getElem?_eq_some_iff.mp h1
    obtain ⟨l2, e2⟩ := List.getElem?_eq_some_iff.mp h
    exact e ((List.getElem_inj S.nd).mp (e1.trans e2.symm))

/-- a thing that stands, taken among the numbered ones -/
theorem RV.adopt {p : Addr} {d : D} {v : V} (r : RV K H θ d v) : RV K H (θ ++ [p]) d v := by
  induction r with
  | non => exact .non
  | bl b => exact .bl b
  | int i => exact .int i
  | str x => exact .str x
  | tup h hl r ih => exact .tup h hl ih
  | rol h hl r ih => exact .rol h hl ih
  | obj h => exact .obj (by rw [List.getElem?_append_left (List.getElem?_eq_some_iff.mp h).1]; exact h)
theorem RO.adopt {p a : Addr} {o : PO} (r : RO K H θ a o) : RO K H (θ ++ [p]) a o := by
  cases o with
  | lst xs => obtain ⟨vs, h, r⟩ := r; exact ⟨vs, h, Paired.mapP r fun _ _ h => h.adopt⟩
  | dk kvs => obtain ⟨ks, h, r⟩ := r; exact ⟨ks, h, Paired.mapP r fun _ _ h => ⟨h.1, h.2.adopt⟩⟩
theorem SR.adopt (S : SR K θ G H) {p : Addr} {o : PO} (h : p ∉ θ) (r : RO K H θ p o) : SR K (θ ++ [p]) (G ++ [o]) H := by
  refine ⟨by simp [S.len], ?_, fun n a u h1 h2 => ?_⟩
  · rw [List.nodup_append]
    refine ⟨S.nd, by simp, fun a ha b hb e => ?_⟩
    have e2 : b = p := by simpa using hb
    subst e2
    subst e
    exact h ha
  · by_cases hn : n < θ.length
    · rw [List.getElem?_append_left hn] at h1
      rw [List.getElem?_append_left (by rw [← S.len]; exact hn)] at h2
      exact (S.obj n a u h1 h2).adopt
    · have hl := (List.getElem?_eq_some_iff.mp h1).1
      have en : n = θ.length := by simp at hl; omega
      subst en
      have e1 : p = a := by simpa using h1
      have e2 : o = u := by rw [S.len] at h2; simpa using h2
      subst e1
      subst e2
      exact r.adopt
/-- .. a thing that was new at H -/
theorem Fut.adopt {p : Addr} (f : Fut θ H θ' H') (h : H p = none) : Fut θ H (θ' ++ [p]) H' := by
  obtain ⟨t, e⟩ := f.pre
  refine ⟨⟨t ++ [p], by rw [e, List.append_assoc]⟩, fun a hm => ?_, f.fr⟩
  rcases List.mem_append.mp hm with z | z
  · exact f.new a z
  · have e : a = p := by simpa using z
    rw [e]; exact .inr h

/-! ### names -/
def ER (K : PySem.W.Frag) (H : Hp) (θ : List Addr) (env : Env) (σ : St) : Prop := σ.length = env.length ∧ ∀ (i : Nat) (d : D), env[i]? = some (some d) → ∃ v, σ[i]? = some (some v) ∧ RV K H θ d v
theorem ER.mono (S : SR K θ G H) (f : Fut θ H θ' H') {env : Env} {σ : St} (e : ER K H θ env σ) : ER K H' θ' env σ := ⟨e.1, fun i d h => by
  obtain ⟨v, h1, h2⟩ := e.2 i d h
  exact ⟨v, h1, h2.mono S f⟩⟩
theorem ER.set {env : Env} {σ : St} (e : ER K H θ env σ) {i : Nat} {d : D} {v : V} (r : RV K H θ d v) : ER K H θ (env.set i (some d)) (σ.set i (some v)) := by
  refine ⟨by simp [e.1], fun j x h => ?_⟩
  by_cases hj : i = j
  · subst hj
    have hl := (List.getElem?_eq_some_iff.mp h).1
    have hl' : i < env.length := by simpa using hl
    rw [List.getElem?_set_self hl'] at h
    cases h
    exact ⟨v, List.getElem?_set_self (by rw [e.1]; exact hl'), r⟩
  · rw [List.getElem?_set_ne hj] at h
    obtain ⟨w, h1, h2⟩ := e.2 j x h
    exact ⟨w, by rw [List.getElem?_set_ne hj]; exact h1, h2⟩
theorem wipeE_length (env : Env) : ∀ vs : List Nat, (wipeE env vs).length = env.length
  | [] => rfl
  | v :: vs => by unfold wipeE; rw [List.length_set, wipeE_length env vs]
theorem ER.wipe {env : Env} {σ : St} (e : ER K H θ env σ) : ∀ vs : List Nat, ER K H θ (wipeE env vs) (L2.wipe σ vs)
  | [] => e
  | v :: vs => by
    have ih := ER.wipe e vs
    unfold wipeE L2.wipe
    refine ⟨by simp [ih.1], fun j x h => ?_⟩
    by_cases hj : v = j
    · subst hj
      have hl := (List.getElem?_eq_some_iff.mp h).1
      have hl' : v < (wipeE env vs).length := by simpa using hl
      rw [List.getElem?_set_self hl'] at h
      cases h
    · rw [List.getElem?_set_ne hj] at h
      obtain ⟨w, h1, h2⟩ := ih.2 j x h
      exact ⟨w, by rw [List.getElem?_set_ne hj]; exact h1, h2⟩
end

/-! ### what is wanted behind a result -/
abbrev WK := Value → Option Addr → Hp → Prop
def Go {α : Type} (K : PySem.W.Frag) (cl : Nat → Addr) (W : WK) (θ : List Addr) (H : Hp) (r : R α) (k : α → List PO → List Addr → Hp → Prop) : Prop := match r with
  | .ok a G' => ∀ θ' H', Fut θ H θ' H' → SR K θ' G' H' → k a G' θ' H'
  | .exc c fs G' => ∀ θ' H' dx fv, Fut θ H θ' H' → SR K θ' G' H' → H' dx = some (.xd fv) → RFs K H' θ' fs fv → W (.ref (cl c)) (some dx) H'
  | .bad => False
section
variable {α β : Type} {K : PySem.W.Frag} {cl : Nat → Addr} {W W' : WK} {θ θ1 : List Addr} {H H1 : Hp} {r : R α} {k k' : α → List PO → List Addr → Hp → Prop}
theorem Go.later (f : Fut θ H θ1 H1) (g : Go K cl W θ H r k) : Go K cl W θ1 H1 r k := by
  cases r with
  | ok a G => exact fun θ' H' f' S => g θ' H' (f.trans f') S
  | exc c fs G => exact fun θ' H' dx fv f' S h1 h2 => g θ' H' dx fv (f.trans f') S h1 h2
  | bad => exact g
theorem Go.imp (g : Go K cl W θ H r k) (h : ∀ a G' θ' H', Fut θ H θ' H' → SR K θ' G' H' → k a G' θ' H' → k' a G' θ' H') : Go K cl W θ H r k' := by
  cases r with
  | ok a G => exact fun θ' H' f' S => h a G θ' H' f' S (g θ' H' f' S)
  | exc c fs G => exact g
  | bad => exact g
theorem Go.bind {f : α → List PO → R β} {k : β → List PO → List Addr → Hp → Prop} (g : Go K cl W θ H (r.bind f) k) : Go K cl W θ H r (fun a G1 θ1 H1 => Go K cl W θ1 H1 (f a G1) k) := by
  cases r with
  | ok a G => exact fun θ' H' f' S => Go.later f' g
  | exc c fs G => exact g
  | bad => exact g
theorem Go.ok {a : α} {G : List PO} (g : Go K cl W θ H (.ok a G) k) (S : SR K θ G H) : k a G θ H := g θ H (Fut.refl θ H) S
theorem Go.wish (g : Go K cl W θ H r k) (h : ∀ c d H', W c d H' → W' c d H') : Go K cl W' θ H r k := by
  cases r with
  | ok a G => exact g
  | exc c fs G => exact fun θ' H' dx fv f' S h1 h2 => h _ _ _ (g θ' H' dx fv f' S h1 h2)
  | bad => exact g
/-- from a result that is known to raise nothing -/
theorem Go.noExc (g : Go K cl W θ H (noExc r) k) : Go K cl W' θ H r k := by
  cases r with
  | ok a G => exact g
  | exc c fs G => exact g.elim
  | bad => exact g
end

/-! ### readings -/
section
variable (K : PySem.W.Frag) (cl : Nat → Addr) (W : WX)
/-- a value's end -/
def vEnd (Q : VK) : D → List PO → List Addr → Hp → Prop := fun d _ θ H => ∀ v, RV K H θ d v → Q v H
def tE (f : Env → List PO → R D) : TE := fun σ H Q => ∃ θ env G, SR K θ G H ∧ ER K H θ env σ ∧ Go K cl (fun c d H' => W c d σ H') θ H (f env G) (vEnd K Q)
def tT (f : Env → List PO → R Bool) : TT := fun σ H Q => ∃ θ env G, SR K θ G H ∧ ER K H θ env σ ∧ Go K cl (fun c d H' => W c d σ H') θ H (f env G) fun b _ _ H' => Q b H'
def tA (f : Env → List PO → R (List D)) : TA := fun σ H Q => ∃ θ env G, SR K θ G H ∧ ER K H θ env σ ∧ Go K cl (fun c d H' => W c d σ H') θ H (f env G) fun ds _ θ' H' => ∀ vs, RVs K H' θ' ds vs → Q vs H'
/-- a def's promise: what its pure reading is worth -/
def spOf (np : Nat) (F : Den) : Sp := fun vs H Q E => vs.length = np ∧ ∃ θ G ds, SR K θ G H ∧ RVs K H θ ds vs ∧ Go K cl E θ H (F ds G) (vEnd K Q)
/-- the slots outside as are as they were -/
def Agr (as : List Nat) (σ σ' : St) : Prop := σ'.length = σ.length ∧ ∀ i, i ∉ as → σ'[i]? = σ[i]?
theorem Agr.refl (as : List Nat) (σ : St) : Agr as σ σ := ⟨rfl, fun _ _ => rfl⟩
theorem Agr.trans {as : List Nat} {σ σ1 σ2 : St} (a : Agr as σ σ1) (b : Agr as σ1 σ2) : Agr as σ σ2 := ⟨b.1.trans a.1, fun i hi => (b.2 i hi).trans (a.2 i hi)⟩
theorem Agr.set {as : List Nat} {σ : St} {i : Nat} {v : Option V} (h : i ∈ as) : Agr as σ (σ.set i v) := ⟨by simp, fun j hj => by rw [List.getElem?_set_ne]; intro e; exact hj (e ▸ h)⟩
def WAt (as : List Nat) (σ : St) : WK := fun c d H' => ∀ σ', Agr as σ σ' → W c d σ' H'
def oEnd (as : List Nat) (σ : St) (D : Ends) : Out → List PO → List Addr → Hp → Prop := fun o _ θ H => match o with
  | .nx e => ∀ σ', ER K H θ e σ' → Agr as σ σ' → D.nx σ' H
  | .rt d => ∀ v, RV K H θ d v → D.rt v H
  | .bk e => ∀ σ', ER K H θ e σ' → Agr as σ σ' → D.bk σ' H
  | .ct e => ∀ σ', ER K H θ e σ' → Agr as σ σ' → D.ct σ' H
def tS (as : List Nat) (f : Env → List PO → R Out) : TS := fun D σ H => ∃ θ env G, SR K θ G H ∧ ER K H θ env σ ∧ Go K cl (WAt W as σ) θ H (f env G) (oEnd K as σ D)
def tG (as : List Nat) (f : D → Env → List PO → R Env) : TG := fun v σ H Q => ∃ θ env G d, SR K θ G H ∧ ER K H θ env σ ∧ RV K H θ d v ∧ Go K cl (WAt W as σ) θ H (f d env G) fun e _ θ' H' => ∀ σ', ER K H' θ' e σ' → Agr as σ σ' → Q σ' H'
def tGs (as : List Nat) (f : List D → Env → List PO → R Env) : TGs := fun vs σ H Q => ∃ θ env G ds, SR K θ G H ∧ ER K H θ env σ ∧ RVs K H θ ds vs ∧ Go K cl (WAt W as σ) θ H (f ds env G) fun e _ θ' H' => ∀ σ', ER K H' θ' e σ' → Agr as σ σ' → Q σ' H'
end
end Pv
end SPvB
section SPvC
set_option Elab.async false
set_option linter.all false
set_option maxRecDepth 100000
/-! The operations by values: what the machine does is what the pure reading says. -/
namespace Pv
open PySem L2
section
variable {X : Cx} {cl : Nat → Addr}
def opPy : Op → Operator
  | .add => .Add | .sub => .Sub | .mul => .Mult | .fdiv => .FloorDiv | .mod => .Mod | .pow => .Pow
def rOpD (K : PySem.W.Frag) (cl : Nat → Addr) (o : Op) : R2 := fun x y H Q => ∃ W θ G d e, SR K θ G H ∧ RV K H θ d x ∧ RV K H θ e y ∧ Go K cl W θ H (opF o d e G) (vEnd K Q)
theorem sqT_new {K : PySem.W.Frag} {H : Hp} {p : Addr} {vs : List V} : SqT K (upd H p (.tup vs)) p vs := .inl (.inl upd_same)
/-- a new tuple of ours -/
theorem go_tup {K : PySem.W.Frag} {W : WK} {θ : List Addr} {G : List PO} {H : Hp} {ds : List D} {vs : List V} {Q : VK} (S : SR K θ G H) (r : RVs K H θ ds vs) (g : Go K cl W θ H (.ok (.tup ds) G) (vEnd K Q)) (p : Addr) (hp : H p = none) : Q (.ref p) (upd H p (.tup vs)) :=
  g θ _ (Fut.new1 hp) (S.new1 hp) _ (.tup' sqT_new (r.mono S (Fut.new1 hp)))
/-- a new list of ours -/
theorem go_lst {K : PySem.W.Frag} {W : WK} {θ : List Addr} {G : List PO} {H : Hp} {ds : List D} {vs : List V} {Q : VK} (S : SR K θ G H) (r : RVs K H θ ds vs) (g : Go K cl W θ H (.ok (.obj G.length) (G ++ [.lst ds])) (vEnd K Q)) (p : Addr) (hp : H p = none) : Q (.ref p) (upd H p (.lst vs)) :=
  g (θ ++ [p]) _ (Fut.alloc hp) (S.alloc hp ⟨vs, upd_same, r.mono S (Fut.alloc hp)⟩) _ (.obj S.allocAt)
theorem go_dk {K : PySem.W.Frag} {W : WK} {θ : List Addr} {G : List PO} {H : Hp} {ds : List (Key × D)} {vs : List (Key × V)} {Q : VK} (S : SR K θ G H) (r : RKs K H θ ds vs) (g : Go K cl W θ H (.ok (.obj G.length) (G ++ [.dk ds])) (vEnd K Q)) (p : Addr) (hp : H p = none) : Q (.ref p) (upd H p (.dK vs)) :=
  g (θ ++ [p]) _ (Fut.alloc hp) (S.alloc hp ⟨vs, upd_same, r.mono S (Fut.alloc hp)⟩) _ (.obj S.allocAt)
theorem paired_append {α β : Type} {F : α → β → Prop} : ∀ {a c : List α} {b d : List β}, Paired F a b → Paired F c d → Paired F (a ++ c) (b ++ d)
  | _, _, _, _, .nil, s => s
  | _, _, _, _, .cons r t, s => .cons r (paired_append t s)
theorem SR.lst {K : PySem.W.Frag} {θ : List Addr} {G : List PO} {H : Hp} (S : SR K θ G H) {n : Nat} {a : Addr} {xs : List D} (h : θ[n]? = some a) (e : G[n]? = some (.lst xs)) : ∃ vs, H a = some (.lst vs) ∧ RVs K H θ xs vs := S.obj n a _ h e
theorem SR.dk {K : PySem.W.Frag} {θ : List Addr} {G : List PO} {H : Hp} (S : SR K θ G H) {n : Nat} {a : Addr} {xs : List (Key × D)} (h : θ[n]? = some a) (e : G[n]? = some (.dk xs)) : ∃ vs, H a = some (.dK vs) ∧ RKs K H θ xs vs := S.obj n a _ h e

theorem opD (o : Op) : OpR X (binaryOp (opPy o)) (rOpD X.K cl o) := by
  intro pins s σ H x y v u Q I rx ry h
  obtain ⟨W, θ, G, d, e, S, rd, re, g⟩ := h
  unfold opF at g
  split at g
  · cases rd; cases re
    exact op_add pins s σ H _ _ v u Q I rx ry ⟨_, _, rfl, rfl, g.ok S _ (.int _)⟩
  · cases rd; cases re
    exact op_sub pins s σ H _ _ v u Q I rx ry ⟨_, _, rfl, rfl, g.ok S _ (.int _)⟩
  · cases rd; cases re
    split at g
    · rename_i hc
      rcases hc with hc | hc
      · exact op_mul pins s σ H _ _ v u Q I rx ry ⟨_, _, rfl, rfl, hc, g.ok S _ (.int _)⟩
      · exact op_mulW pins s σ H _ _ v u Q I rx ry ⟨_, _, rfl, rfl, hc, g.ok S _ (.int _)⟩
    · exact g.elim
  · cases rd; cases re
    split at g
    · rename_i hc
      exact op_fdivW pins s σ H _ _ v u Q I rx ry ⟨_, _, rfl, rfl, hc, g.ok S _ (.int _)⟩
    · exact g.elim
  · cases rd; cases re
    split at g
    · rename_i hc
      exact op_mod pins s σ H _ _ v u Q I rx ry ⟨_, _, rfl, rfl, hc, g.ok S _ (.int _)⟩
    · exact g.elim
  · cases rd; cases re
    split at g
    · rename_i hc
      exact op_pow pins s σ H _ _ v u Q I rx ry ⟨_, _, rfl, rfl, hc, g.ok S _ (.int _)⟩
    · exact g.elim
  · cases rd; cases re
    split at g
    · rename_i hc
      exact op_add_str pins s σ H _ _ v u Q I rx ry ⟨_, _, rfl, rfl, hc, g.ok S _ (.str _)⟩
    · exact g.elim
  · obtain ⟨a, vs, rfl, ha, ra⟩ := rd.tup_inv
    obtain ⟨b, ws, rfl, hb, rb⟩ := re.tup_inv
    split at g
    · rename_i hc
      refine op_catA pins s σ H _ _ v u Q I rx ry ⟨a, b, vs, ws, rfl, rfl, ha, hb, by rw [← Paired.length ra, ← Paired.length rb]; exact hc, fun z => ?_, fun z1 z => ?_, fun _ _ p hp => ?_⟩
      · subst z
        cases ra
        exact g.ok S _ (.tup' hb rb)
      · subst z
        cases rb
        rw [List.append_nil] at g
        exact g.ok S _ (.tup' ha ra)
      · exact go_tup S (paired_append ra rb) g p hp
    · exact g.elim
  · rename_i n m
    obtain ⟨a, rfl, ha⟩ := rd.obj_inv
    obtain ⟨b, rfl, hb⟩ := re.obj_inv
    split at g
    · rename_i xs ys e1 e2
      split at g
      · rename_i hc
        obtain ⟨vs, h1, r1⟩ := S.lst ha e1
        obtain ⟨ws, h2, r2⟩ := S.lst hb e2
        exact op_cat pins s σ H _ _ v u Q I rx ry ⟨a, b, vs, ws, rfl, rfl, h1, h2, by rw [← Paired.length r1, ← Paired.length r2]; exact hc, fun p hp => go_lst S (paired_append r1 r2) g p hp⟩
      · exact g.elim
    · exact g.elim
  · exact g.elim

/-! ### comparisons -/
def cmPy : Cm → CmpOp
  | .eq => .Eq | .ne => .NotEq | .lt => .Lt | .le => .LtE | .gt => .Gt | .ge => .GtE
def rCmD (K : PySem.W.Frag) (cl : Nat → Addr) (c : Cm) : R2 := fun x y H Q => ∃ W θ G d e, SR K θ G H ∧ RV K H θ d x ∧ RV K H θ e y ∧ Go K cl W θ H (okB (cmF c d e) G) (vEnd K Q)
theorem eqS_sound {K : PySem.W.Frag} {H : Hp} {θ : List Addr} {d e : D} {x y : V} {b : Bool} (rd : RV K H θ d x) (re : RV K H θ e y) (h : eqS d e = some b) : scal x y = true ∧ decide (x = y) = b := by
  unfold eqS at h
  split at h <;> first
    | (simp at h; done)
    | (cases rd; cases re; cases h; refine ⟨rfl, ?_⟩; simp)
theorem cmD (c : Cm) : OpR X (compareOp (cmPy c)) (rCmD X.K cl c) := by
  intro pins s σ H x y v u Q I rx ry h
  obtain ⟨W, θ, G, d, e, S, rd, re, g⟩ := h
  cases hc : cmF c d e with
  | none => rw [hc] at g; exact g.elim
  | some b =>
    rw [hc] at g
    have q : Q (.bl b) H := g.ok S _ (.bl b)
    unfold cmF at hc
    split at hc
    · obtain ⟨h1, h2⟩ := eqS_sound rd re hc
      exact op_eq pins s σ H x y v u Q I rx ry ⟨h1, by rw [h2]; exact q⟩
    · cases he : eqS d e with
      | none => rw [he] at hc; cases hc
      | some b' =>
        rw [he] at hc
        cases hc
        obtain ⟨h1, h2⟩ := eqS_sound rd re he
        exact op_ne pins s σ H x y v u Q I rx ry ⟨h1, by rw [h2]; exact q⟩
    · split at hc
      · cases rd; cases re; cases hc
        exact op_lt pins s σ H _ _ v u Q I rx ry ⟨_, _, rfl, rfl, q⟩
      · cases rd; cases re; cases hc
        exact op_lt_str pins s σ H _ _ v u Q I rx ry ⟨_, _, rfl, rfl, q⟩
      · cases hc
    · split at hc
      · cases rd; cases re; cases hc
        exact op_le pins s σ H _ _ v u Q I rx ry ⟨_, _, rfl, rfl, q⟩
      · cases hc
    · split at hc
      · cases rd; cases re; cases hc
        exact op_gt pins s σ H _ _ v u Q I rx ry ⟨_, _, rfl, rfl, q⟩
      · cases hc
    · split at hc
      · cases rd; cases re; cases hc
        exact op_ge pins s σ H _ _ v u Q I rx ry ⟨_, _, rfl, rfl, q⟩
      · cases hc

/-! ### subscripts -/
theorem atI_rv {K : PySem.W.Frag} {H : Hp} {θ : List Addr} {xs : List D} {vs : List V} (r : RVs K H θ xs vs) {i : Int} {d : D} (h : atI xs i = some d) : ∃ v, atI vs i = some v ∧ RV K H θ d v := by
  unfold atI at h ⊢
  rw [← Paired.length r]
  cases e : ixN xs.length i with
  | none => rw [e] at h; cases h
  | some j =>
    rw [e] at h
    have h : xs[j]? = some d := h
    have hj := (List.getElem?_eq_some_iff.mp h).1
    have hj2 : j < vs.length := by rw [← Paired.length r]; exact hj
    refine ⟨vs[j], List.getElem?_eq_getElem hj2, ix_paired r j d _ h (List.getElem?_eq_getElem hj2)⟩
theorem getK_rv {K : PySem.W.Frag} {H : Hp} {θ : List Addr} {k : Key} : ∀ {kvs : List (Key × D)} {ks : List (Key × V)} (r : RKs K H θ kvs ks) {d : D} (h : getK kvs k = some d), ∃ v, valV ks k = some v ∧ RV K H θ d v
  | [], [], .nil, d, h => by cases h
  | p :: kvs, q :: ks, .cons r t, d, h => by
    by_cases e : p.1 = k
    · have h1 : getK (p :: kvs) k = some p.2 := by simp [getK, List.find?_cons, e]
      rw [h1] at h
      cases h
      exact ⟨q.2, valV_pos (by rw [← r.1]; exact e), r.2⟩
    · have h1 : getK (p :: kvs) k = getK kvs k := by simp [getK, List.find?_cons, e]
      rw [h1] at h
      obtain ⟨v, h2, h3⟩ := getK_rv t h
      exact ⟨v, by rw [valV_neg (by rw [← r.1]; exact e)]; exact h2, h3⟩
theorem keyF_rv {K : PySem.W.Frag} {H : Hp} {θ : List Addr} {d : D} {v : V} {k : Key} (r : RV K H θ d v) (h : keyF d = some k) : v = kV k := by
  unfold keyF at h
  split at h <;> first | (cases h; cases r; rfl) | cases h
def rIxD (K : PySem.W.Frag) (cl : Nat → Addr) : R2 := fun x y H Q => ∃ W θ G d e, SR K θ G H ∧ RV K H θ d x ∧ RV K H θ e y ∧ Go K cl W θ H (ixF d e G) (vEnd K Q)
theorem ix_dict (hu : X.A.units + 1 < cLine) : IxR X (fun x y H Q => ∃ a v, x = .ref a ∧ DGet H a y (some v) ∧ Q v H) := by
  intro value slice pins s σ H x y v u Q I rx ry h hs
  obtain ⟨a, w, rfl, g, q⟩ := h
  cases rx
  exact PyProof.Rows.tail_any (dict_typeIs I g) PySem.F.slot_dict_getitem.lookup (d_getItem hu I g ry fun w' s' I' r' => ⟨w, H, I', r', q⟩) hs
theorem ixD (hu : X.A.units + 1 < cLine) : IxR X (rIxD X.K cl) := by
  intro value slice pins s σ H x y v u Q I rx ry h hs
  obtain ⟨W, θ, G, d, e, S, rd, re, g⟩ := h
  have seq : ∀ {xs : List D} {vs : List V} {i : Int}, RVs X.K H θ xs vs → Go X.K cl W θ H (okO (atI xs i) G) (vEnd X.K Q) → ∃ v, atI vs i = some v ∧ Q v H := by
    intro xs vs i r g
    cases h : atI xs i with
    | none => rw [h] at g; exact g.elim
    | some d =>
      rw [h] at g
      obtain ⟨v, h1, h2⟩ := atI_rv r h
      exact ⟨v, h1, g.ok S _ h2⟩
  unfold ixF at g
  split at g
  · obtain ⟨a, vs, rfl, ha, ra⟩ := rd.tup_inv
    split at g
    · cases re
      obtain ⟨w, h1, h2⟩ := seq ra g
      exact ix_tup value slice pins s σ H _ _ v u Q I rx ry ⟨a, vs, _, w, rfl, rfl, ha, h1, h2⟩ hs
    · exact g.elim
  · obtain ⟨a, vs, rfl, ha, ra⟩ := rd.rol_inv
    split at g
    · cases re
      obtain ⟨w, h1, h2⟩ := seq ra g
      exact ix_list value slice pins s σ H _ _ v u Q I rx ry ⟨a, vs, _, w, rfl, rfl, ha.sq, h1, h2⟩ hs
    · exact g.elim
  · obtain ⟨a, rfl, ha⟩ := rd.obj_inv
    split at g
    · rename_i xs e1
      obtain ⟨vs, h1, r1⟩ := S.lst ha e1
      split at g
      · cases re
        obtain ⟨w, h2, h3⟩ := seq r1 g
        exact ix_list value slice pins s σ H _ _ v u Q I rx ry ⟨a, vs, _, w, rfl, rfl, .inl (.inl h1), h2, h3⟩ hs
      · exact g.elim
    · rename_i kvs e1
      obtain ⟨ks, h1, r1⟩ := S.dk ha e1
      split at g
      · rename_i k hk
        cases h : getK kvs k with
        | none => rw [h] at g; exact g.elim
        | some d =>
          rw [h] at g
          obtain ⟨w, h2, h3⟩ := getK_rv r1 h
          have ey := keyF_rv re hk
          subst ey
          exact ix_dict hu value slice pins s σ H _ _ v u Q I rx ry ⟨a, w, rfl, by rw [← h2]; exact DGet.k h1, g.ok S _ h3⟩ hs
      · exact g.elim
    · exact g.elim
  · exact g.elim

/-! ### slices -/
theorem cutF_rv {K : PySem.W.Frag} {H : Hp} {θ : List Addr} {xs : List D} {vs : List V} (r : RVs K H θ xs vs) (lo hi : Option Int) : RVs K H θ (cutF xs lo hi) (cutV vs lo hi) := by
  have dr : ∀ (n : Nat) {xs : List D} {vs : List V}, RVs K H θ xs vs → RVs K H θ (xs.drop n) (vs.drop n) := by
    intro n
    induction n with
    | zero => exact fun r => r
    | succ n ih =>
      intro xs vs r
      cases r with
      | nil => exact .nil
      | cons r t => exact ih t
  have tk : ∀ (n : Nat) {xs : List D} {vs : List V}, RVs K H θ xs vs → RVs K H θ (xs.take n) (vs.take n) := by
    intro n
    induction n with
    | zero => exact fun r => .nil
    | succ n ih =>
      intro xs vs r
      cases r with
      | nil => exact .nil
      | cons r t => exact .cons r (ih t)
  unfold cutF cutV
  rw [Paired.length r]
  exact tk _ (dr _ r)
def rSlD (K : PySem.W.Frag) (cl : Nat → Addr) : V → Option Int → Option Int → Hp → VK → Prop := fun x lo hi H Q => ∃ W θ G d, SR K θ G H ∧ RV K H θ d x ∧ Go K cl W θ H (slF d lo hi G) (vEnd K Q)
theorem slD : SlR X (rSlD X.K cl) := by
  intro pins s σ H x v vl vu lo hi sl Q I rx hs pl pu h
  obtain ⟨W, θ, G, d, S, rd, g⟩ := h
  unfold slF at g
  split at g
  · obtain ⟨a, vs, rfl, ha, ra⟩ := rd.tup_inv
    refine sl_tupA pins s σ H _ v vl vu lo hi sl Q I rx hs pl pu ⟨a, vs, rfl, ha, fun z => ?_, fun _ p hp => go_tup S (cutF_rv ra lo hi) g p hp⟩
    have r := cutF_rv ra lo hi
    have e : cutV vs lo hi = vs := by
      unfold cutV
      rw [z.1, z.2, List.drop_zero, Nat.sub_zero, List.take_length]
    rw [e] at r
    exact g.ok S _ (.tup' ha r)
  · obtain ⟨a, rfl, ha⟩ := rd.obj_inv
    split at g
    · rename_i xs e1
      obtain ⟨vs, h1, r1⟩ := S.lst ha e1
      exact sl_list pins s σ H _ v vl vu lo hi sl Q I rx hs pl pu ⟨a, vs, rfl, .inl (.inl h1), fun p hp => go_lst S (cutF_rv r1 lo hi) g p hp⟩
    · exact g.elim
  · exact g.elim

/-! ### isinstance -/
def tyN : Ty → String
  | .int => "int" | .bool => "bool" | .str => "str" | .tuple => "tuple" | .list => "list" | .dict => "dict"
theorem tyX_tup {K : PySem.W.Frag} {H : Hp} {a : Addr} {vs : List V} (h : SqT K H a vs) : TyX K H (.ref a) (.type "tuple") := by
  rcases h with (h | ⟨o, h⟩) | ⟨o, its, n, h, c, _⟩
  · exact .base (.tup h)
  · exact .fTuple h
  · exact .kTuple h c
theorem isF_sound {K : PySem.W.Frag} {θ : List Addr} {G : List PO} {H : Hp} {d : D} {x : V} {t : Ty} {b : Bool} (S : SR K θ G H) (rd : RV K H θ d x) (h : isF d t G = some b) : ∃ T : String, TyX K H x (.type T) ∧ PySem.W.kitOne K (.type T) (.type (tyN t)) = some b := by
  unfold isF at h
  split at h
  · cases rd
    cases h
    exact ⟨"int", .base (.int _), kit_ty (by cases t <;> decide +kernel)⟩
  · cases rd
    cases h
    exact ⟨"bool", .base (.bl _), kit_ty (by cases t <;> decide +kernel)⟩
  · cases rd
    cases h
    exact ⟨"str", .base (.str _), kit_ty (by cases t <;> decide +kernel)⟩
  · cases rd
    cases h
    exact ⟨"NoneType", .base .non, kit_ty (by cases t <;> decide +kernel)⟩
  · obtain ⟨a, vs, rfl, ha, ra⟩ := rd.tup_inv
    cases h
    exact ⟨"tuple", tyX_tup ha, kit_ty (by cases t <;> decide +kernel)⟩
  · cases h
  · obtain ⟨a, rfl, ha⟩ := rd.obj_inv
    split at h
    · rename_i xs e1
      obtain ⟨vs, h1, r1⟩ := S.lst ha e1
      cases h
      exact ⟨"list", .base (.lst h1), kit_ty (by cases t <;> decide +kernel)⟩
    · rename_i kvs e1
      obtain ⟨ks, h1, r1⟩ := S.dk ha e1
      cases h
      exact ⟨"dict", .base (.dK h1), kit_ty (by cases t <;> decide +kernel)⟩
    · cases h

/-! ### built-in functions -/
theorem rvs1 {K : PySem.W.Frag} {H : Hp} {θ : List Addr} {d : D} {xs : List V} (r : RVs K H θ [d] xs) : ∃ v, xs = [v] ∧ RV K H θ d v := by
  cases r with
  | cons r t =>
    cases t
    exact ⟨_, rfl, r⟩
theorem rvs2 {K : PySem.W.Frag} {H : Hp} {θ : List Addr} {d e : D} {xs : List V} (r : RVs K H θ [d, e] xs) : ∃ v w, xs = [v, w] ∧ RV K H θ d v ∧ RV K H θ e w := by
  cases r with
  | cons r t =>
    cases t with
    | cons r' t' =>
      cases t'
      exact ⟨_, _, rfl, r, r'⟩
theorem rvsI {K : PySem.W.Frag} {H : Hp} {θ : List Addr} {i : Int} {xs : List V} (r : RVs K H θ [.int i] xs) : xs = [.int i] := by
  obtain ⟨v, rfl, q⟩ := rvs1 r
  rw [q.int_inv]
theorem rvsII {K : PySem.W.Frag} {H : Hp} {θ : List Addr} {i j : Int} {xs : List V} (r : RVs K H θ [.int i, .int j] xs) : xs = [.int i, .int j] := by
  obtain ⟨v, w, rfl, r, q⟩ := rvs2 r
  rw [r.int_inv, q.int_inv]
theorem rvsB {K : PySem.W.Frag} {H : Hp} {θ : List Addr} {i : Bool} {xs : List V} (r : RVs K H θ [.bl i] xs) : xs = [.bl i] := by
  obtain ⟨v, rfl, q⟩ := rvs1 r
  rw [q.bl_inv]
def rBlD (K : PySem.W.Frag) (cl : Nat → Addr) (b : Bl) : List V → Hp → VK → Prop := fun xs H Q => ∃ W θ G ds, SR K θ G H ∧ RVs K H θ ds xs ∧ Go K cl W θ H (bltF b ds G) (vEnd K Q)
inductive BlV where
  | bi (id : String) | ty (T : String)
def blV : Bl → BlV
  | .len => .bi "len" | .min2 => .bi "min" | .max2 => .bi "max" | .abs => .bi "abs" | .int1 => .ty "int" | .tuple1 => .ty "tuple" | .list1 => .ty "list" | .sum => .bi "sum" | .gcd => .bi "math.gcd" | .comb => .bi "math.comb"
def BlV.val : BlV → Value
  | .bi id => .builtin id
  | .ty T => .type T
theorem seqF_rv {K : PySem.W.Frag} {θ : List Addr} {G : List PO} {H : Hp} {d : D} {x : V} {l : List D} (S : SR K θ G H) (rd : RV K H θ d x) (h : seqF d G = some l) : ∃ a vs, x = .ref a ∧ (SqL K H a vs ∨ SqT K H a vs) ∧ RVs K H θ l vs := by
  unfold seqF at h
  split at h
  · cases h
    obtain ⟨a, vs, rfl, ha, ra⟩ := rd.tup_inv
    exact ⟨a, vs, rfl, .inr ha, ra⟩
  · cases h
    obtain ⟨a, vs, rfl, ha, ra⟩ := rd.rol_inv
    exact ⟨a, vs, rfl, .inl ha.sq, ra⟩
  · obtain ⟨a, rfl, ha⟩ := rd.obj_inv
    split at h
    · rename_i xs e1
      cases h
      obtain ⟨vs, h1, r1⟩ := S.lst ha e1
      exact ⟨a, vs, rfl, .inl (.inl (.inl h1)), r1⟩
    · cases h
  · cases h
theorem intsOf_rv {K : PySem.W.Frag} {H : Hp} {θ : List Addr} : ∀ {l : List D} {vs : List V} {ns : List Int}, RVs K H θ l vs → intsOf l = some ns → vs = ns.map V.int
  | [], [], ns, .nil, h => by cases h; rfl
  | d :: l, v :: vs, ns, .cons r t, h => by
    cases d with
    | int i =>
      cases r
      unfold intsOf at h
      cases e : intsOf l with
      | none => rw [e] at h; cases h
      | some ms =>
        rw [e] at h
        cases h
        rw [intsOf_rv t e]
        rfl
    | _ => cases h
theorem blD (b : Bl) (hc : X.calm = true) : CallR X (blV b).val (rBlD X.K cl b) := by
  intro pins s σ H xs us Q I r h
  obtain ⟨W, θ, G, ds, S, rd, g⟩ := h
  unfold bltF at g
  split at g
  · -- len
    obtain ⟨v, rfl, r1⟩ := rvs1 rd
    split at g
    · rename_i l e
      obtain ⟨a, vs, rfl, hs, rl⟩ := seqF_rv S r1 e
      exact call_len_seq pins s σ H _ us Q I r ⟨a, vs, rfl, hs, by rw [← Paired.length rl]; exact g.ok S _ (.int _)⟩
    · exact g.elim
  · have ev := rvsII rd; subst ev
    exact call_min2 hc pins s σ H _ us Q I r ⟨_, _, rfl, g.ok S _ (.int _)⟩
  · have ev := rvsII rd; subst ev
    exact call_max2 hc pins s σ H _ us Q I r ⟨_, _, rfl, g.ok S _ (.int _)⟩
  · have ev := rvsI rd; subst ev
    exact call_abs pins s σ H _ us Q I r ⟨_, rfl, g.ok S _ (.int _)⟩
  · have ev := rvsI rd; subst ev
    exact call_int1 pins s σ H _ us Q I r (.inl ⟨_, rfl, g.ok S _ (.int _)⟩)
  · have ev := rvsB rd; subst ev
    exact call_int1 pins s σ H _ us Q I r (.inr ⟨_, rfl, g.ok S _ (.int _)⟩)
  · -- tuple
    obtain ⟨v, rfl, r1⟩ := rvs1 rd
    split at g
    · rename_i l e
      obtain ⟨a, vs, rfl, hs, rl⟩ := seqF_rv S r1 e
      refine call_tuple_of pins s σ H _ us Q I r ⟨a, vs, rfl, ?_⟩
      rcases hs with hs | hs
      · exact .inl ⟨hs, fun p hp => go_tup S rl g p hp⟩
      · exact .inr ⟨hs, g.ok S _ (.tup' hs rl)⟩
    · exact g.elim
  · -- list
    obtain ⟨v, rfl, r1⟩ := rvs1 rd
    split at g
    · rename_i l e
      obtain ⟨a, vs, rfl, hs, rl⟩ := seqF_rv S r1 e
      exact call_list_of pins s σ H _ us Q I r ⟨a, vs, rfl, hs, fun p hp => go_lst S rl g p hp⟩
    · exact g.elim
  · -- sum
    obtain ⟨v, rfl, r1⟩ := rvs1 rd
    obtain ⟨a, rfl, ha⟩ := r1.obj_inv
    split at g
    · rename_i l e
      split at g
      · rename_i ns e2
        obtain ⟨vs, h1, rl⟩ := S.lst ha e
        have ev := intsOf_rv rl e2
        subst ev
        exact cr_sum hc pins s σ H _ us Q I r ⟨a, ns, rfl, .inl (.inl h1), g.ok S _ (.int _)⟩
      · exact g.elim
    · exact g.elim
  · have ev := rvsII rd; subst ev
    exact cr_gcd pins s σ H _ us Q I r ⟨_, _, rfl, g.ok S _ (.int _)⟩
  · have ev := rvsII rd; subst ev
    split at g
    · rename_i hb
      obtain ⟨t, u, rfl⟩ := Vals.int2 r
      exact PySem.W.mc_comb hb.1 hb.2.1 (by omega) (.inr hb.2.2) fun _ => ⟨.int _, H, I.tok _, ⟨_, rfl⟩, g.ok S _ (.int _)⟩
    · exact g.elim
  · exact g.elim

/-! ### methods, stores -/
def mtT : Mt → String
  | .append => "list"
def mtN : Mt → Str
  | .append => "append"
def mtI : Mt → String
  | .append => "list.append"
def rMtD (K : PySem.W.Frag) (cl : Nat → Addr) (m : Mt) : V → List V → Hp → VK → Prop := fun x xs H Q => ∃ W θ G d ds, SR K θ G H ∧ RV K H θ d x ∧ RVs K H θ ds xs ∧ Go K cl W θ H (mthF m d ds G) (vEnd K Q)
theorem mtD (m : Mt) : MtR X (mtI m) (rMtD X.K cl m) := by
  intro pins s σ H x xs v us Q I rx rs h
  obtain ⟨W, θ, G, d, ds, S, rd, rds, g⟩ := h
  unfold mthF at g
  split at g
  · obtain ⟨a, rfl, ha⟩ := rd.obj_inv
    obtain ⟨y, rfl, ry⟩ := rvs1 rds
    split at g
    · rename_i l e
      split at g
      · rename_i hz
        obtain ⟨vs, h1, rl⟩ := S.lst ha e
        refine mt_append pins s σ H _ _ v us Q I rx rs ⟨a, vs, y, rfl, rfl, h1, by rw [← Paired.length rl]; exact hz, ?_⟩
        have f : Fut θ H θ (upd H a (.lst (vs ++ [y]))) := Fut.wr ha
        exact g θ _ f (S.wr ha ⟨_, upd_same, RVs.mono S f (paired_append rl (.cons ry .nil))⟩) _ .non
      · exact g.elim
    · exact g.elim
  · exact g.elim
def tStD (K : PySem.W.Frag) (cl : Nat → Addr) : TSet := fun o i v H Q => ∃ W θ G d e z, SR K θ G H ∧ RV K H θ d o ∧ RV K H θ e i ∧ RV K H θ z v ∧ Go K cl W θ H (setF d e z G) fun _ _ _ H' => Q H'
theorem paired_set {α β : Type} {F : α → β → Prop} {x : α} {y : β} (r : F x y) : ∀ {xs : List α} {ys : List β} (j : Nat), Paired F xs ys → Paired F (xs.set j x) (ys.set j y)
  | _, _, _, .nil => .nil
  | _, _, 0, .cons q t => .cons r t
  | _, _, j + 1, .cons q t => .cons q (paired_set r j t)
theorem setK_rv {K : PySem.W.Frag} {H : Hp} {θ : List Addr} {k : Key} {d : D} {v : V} (rv : RV K H θ d v) {kvs : List (Key × D)} {ks : List (Key × V)} (r : RKs K H θ kvs ks) : RKs K H θ (setK kvs k d) (putK ks k v) := by
  have hany : ∀ {kvs : List (Key × D)} {ks : List (Key × V)}, RKs K H θ kvs ks → (kvs.any fun kv => decide (kv.1 = k)) = (ks.any fun kv => decide (kv.1 = k)) := by
    intro kvs ks r
    induction r with
    | nil => rfl
    | cons q t ih => simp only [List.any_cons, ih, q.1]
  have hmap : ∀ {kvs : List (Key × D)} {ks : List (Key × V)}, RKs K H θ kvs ks → RKs K H θ (kvs.map (fun kv => if kv.1 = k then (kv.1, d) else kv)) (ks.map (fun kv => if kv.1 = k then (kv.1, v) else kv)) := by
    intro kvs ks r
    induction r with
    | nil => exact .nil
    | @cons p q _ _ q1 t ih =>
      refine .cons ?_ ih
      by_cases e : p.1 = k
      · simp only [if_pos e, if_pos (show q.1 = k from q1.1 ▸ e)]
        exact ⟨q1.1, rv⟩
      · simp only [if_neg e, if_neg (show ¬ q.1 = k from fun z => e (q1.1.trans z))]
        exact q1
  unfold setK putK
  rw [hany r]
  split
  · exact hmap r
  · exact paired_append r (.cons ⟨rfl, rv⟩ .nil)
theorem stD (hu : X.A.units + 1 < cLine) : PSet X (tStD X.K cl) := by
  intro pins s σ H o i v ov iv u Q I ro ri rv h
  obtain ⟨W, θ, G, d, e, z, S, rd, re, rz, g⟩ := h
  unfold setF at g
  split at g
  · obtain ⟨a, rfl, ha⟩ := rd.obj_inv
    split at g
    · rename_i xs e1
      obtain ⟨vs, h1, r1⟩ := S.lst ha e1
      split at g
      · cases re
        split at g
        · rename_i j hj
          refine set_list pins s σ H _ _ v ov iv u Q I ro ri rv ⟨a, vs, _, j, rfl, rfl, h1, by rw [← Paired.length r1]; exact hj, ?_⟩
          have f : Fut θ H θ (upd H a (.lst (vs.set j v))) := Fut.wr ha
          exact g θ _ f (S.wr ha ⟨_, upd_same, RVs.mono S f (paired_set rz j r1)⟩)
        · exact g.elim
      · exact g.elim
    · rename_i kvs e1
      obtain ⟨ks, h1, r1⟩ := S.dk ha e1
      split at g
      · rename_i k hk
        split at g
        · rename_i hz
          have ey := keyF_rv re hk
          subst ey
          refine set_dict hu pins s σ H _ _ v ov iv u Q I ro ri rv ⟨a, _, rfl, DPut.k h1 (by rw [← Paired.length r1]; exact hz), ?_⟩
          have f : Fut θ H θ (upd H a (.dK (putK ks k v))) := Fut.wr ha
          exact g θ _ f (S.wr ha ⟨_, upd_same, RKs.mono S f (setK_rv rz r1)⟩)
        · exact g.elim
      · exact g.elim
    · exact g.elim
  · exact g.elim
end
end Pv
end SPvC
section SPvD
set_option Elab.async false
set_option linter.all false
set_option maxRecDepth 100000
/-! The check of a def's text against its pure form, and the check's worth for expressions. -/
namespace Pv
open PySem L2

/-- what is known of a block: its names by slot, its scope, whether it is a comprehension's, the slots that it may store -/
structure SI where
  N : List Str
  sc : Scope
  blk : Bool
  as : List Nat
/-- what is known of the program: its defs' names and how many parameters they take, its constants' names, the names of built-in functions, the names of the math functions -/
structure PI0 where
  fns : List (Str × Nat)
  gls : List Str
  bls : List Str
  mts : List (Str × String)

def visB (sc : Scope) (x : Str) : Bool := match sc.names.lookup x with
  | some .local => true | some .cell => true | some .free => true | _ => false
def glB (sc : Scope) (x : Str) : Bool := match sc.names.lookup x with
  | some .globalImplicit => true | _ => false
def nmB (x : Str) : Bool := decide ((x == ("__debug__" : Str)) = false) && decide ((x == ("__classdict__" : Str)) = false) && decide (x ≠ "__name__")
def okC : Const → D → Bool
  | .int i, .int j => decide (i = j)
  | .bool i, .bl j => decide (i = j)
  | .str i, .str j => decide (i = j)
  | .none, .non => true
  | _, _ => false
def starB : Expr → Bool
  | .Starred _ _ => true
  | _ => false
def sliceB : Expr → Bool
  | .Slice _ _ _ _ => true
  | _ => false
def setB : Expr → Bool
  | .Set _ _ _ => true
  | _ => false
def superB : Expr → Bool
  | .Call (.Name _ _) [] [] _ => true
  | _ => false
/-- a test that is its value's truth -/
def plainB : Expr → Bool
  | .UnaryOp .Not _ _ => false
  | .BoolOp _ _ _ => false
  | .IfExp _ _ _ _ => false
  | .Compare _ _ _ _ => false
  | _ => true
def testB : Expr → Bool
  | .IfExp _ _ _ _ => false
  | _ => true
def okL (f : Expr → IE → Bool) : List Expr → IEs → Bool
  | [], .nil => true
  | e :: es, .cons x xs => !starB e && f e x && okL f es xs
  | _, _ => false
def okK (f : Expr → IE → Bool) : List (Option Expr) → List Expr → IKs → Bool
  | [], [], .nil => true
  | some k :: ks, e :: es, .cons y x xs => f k y && f e x && okK f ks es xs
  | _, _, _ => false
def okO1 (f : Expr → IE → Bool) : Option Expr → IO → Bool
  | none, .no => true
  | some e, .so x => f e x
  | _, _ => false
def okIt (p : PI0) (S : SI) (f : Expr → IE → Bool) : Expr → II → Bool
  | .Call (.Name x _) [a] [] _, .rng1 y => decide (x = "range") && decide (("range" : Str) ∈ p.bls) && glB S.sc "range" && !starB a && f a y
  | .Call (.Name x _) [a, b] [] _, .rng2 y z => decide (x = "range") && decide (("range" : Str) ∈ p.bls) && glB S.sc "range" && !starB a && !starB b && f a y && f b z
  | e, .val y => !setB e && f e y
  | _, _ => false
def locB (S : SI) (x : Str) : Bool := match S.sc.names.lookup x with
  | some .local => true | some .cell => !S.blk | _ => false
def okTg (S : SI) (f : Expr → IE → Bool) : Nat → Expr → IT → Bool
  | 0, _, _ => false
  | n + 1, e, t => match e, t with
    | .Name x _, .nm i => decide (S.N[i]? = some x) && locB S x && decide (i ∈ S.as)
    | .Tuple es _ _, .tp ts => go n es ts
    | .Subscript o i _, .sub x y => !sliceB i && f o x && f i y
    | _, _ => false
where go (n : Nat) : List Expr → ITs → Bool
  | [], .nil => true
  | e :: es, .cons t ts => !starB e && okTg S f n e t && go n es ts
  | _, _ => false
def blName : Bl → Str
  | .len => "len" | .min2 => "min" | .max2 => "max" | .abs => "abs" | .int1 => "int" | .tuple1 => "tuple" | .list1 => "list" | .sum => "sum" | .gcd => "gcd" | .comb => "comb"
def blMath : Bl → Option String
  | .gcd => some "math.gcd" | .comb => some "math.comb" | _ => none
def okBl (p : PI0) (S : SI) (x : Str) (b : Bl) : Bool := decide (x = blName b) && glB S.sc x && (match blMath b with
  | some id => decide ((x, id) ∈ p.mts)
  | none => decide (x ∈ p.bls))
def SI.inner (S : SI) (scope : Scope) (own : List Nat) : SI := { N := S.N, sc := relS scope S.sc, blk := true, as := own }
def okLc (p : PI0) (f : SI → Expr → IE → Bool) (S : SI) (elt tg it : Expr) (ifs : List Expr) (ia : Int) (scope : Scope) (x : IE) (t : IT) (i : II) (a : IEs) (own : List Nat) : Bool :=
  decide (ia = 0) && blkC S.N S.sc scope (own.map fun i => (S.N.getD i "", i)) && !setB it && okIt p S (f S) it i && okTg (S.inner scope own) (f (S.inner scope own)) 4 tg t && decide (ifs.length ≤ 1) && ifs.all testB && okL (f (S.inner scope own)) ifs a && f (S.inner scope own) elt x
def okE (p : PI0) : Nat → SI → Expr → IE → Bool
  | 0, _, _, _ => false
  | n + 1, S, e, ie => match e, ie with
    | .Name x _, .var i => decide (S.N[i]? = some x) && visB S.sc x && nmB x
    | .Name x _, .glb g => decide (p.gls[g]? = some x) && glB S.sc x && nmB x
    | .Constant c _ _, .cst d => okC c d
    | .BinOp a o b _, .op o' x y => decide (opPy o' = o) && okE p n S a x && okE p n S b y
    | .UnaryOp .USub a _, .neg x => okE p n S a x
    | .UnaryOp .Not a _, .not x => testB a && okE p n S a x
    | .Compare a [.Is] [.Constant .none _ _] _, .isN x => okE p n S a x
    | .Compare a [.IsNot] [.Constant .none _ _] _, .notN x => okE p n S a x
    | .Compare a [o] [b] _, .cmp c x y => decide (cmPy c = o) && okE p n S a x && okE p n S b y
    | .Compare a [o, o'] [b, d] _, .chain c c' x y z => decide (cmPy c = o) && decide (cmPy c' = o') && okE p n S a x && okE p n S b y && okE p n S d z
    | .BoolOp .And (a :: b :: r) q, .and x y => testB a && okE p n S a x && okE p n S (.BoolOp .And (b :: r) q) y
    | .BoolOp .Or (a :: b :: r) q, .or x y => testB a && okE p n S a x && okE p n S (.BoolOp .Or (b :: r) q) y
    | .BoolOp _ [a] _, x => testB a && okE p n S a x
    | .IfExp c a b _, .ite z x y => testB c && okE p n S c z && okE p n S a x && okE p n S b y
    | .Tuple es _ _, .tup xs => okL (okE p n S) es xs
    | .List es _, .lst xs => okL (okE p n S) es xs
    | .Dict ks vs _, .dct xs => decide (ks.length ≤ 15) && okK (okE p n S) ks vs xs
    | .Subscript a (.Slice lo hi none _) _, .slc x l h => okE p n S a x && okO1 (okE p n S) lo l && okO1 (okE p n S) hi h
    | .Subscript a b _, .ix x y => !sliceB b && okE p n S a x && okE p n S b y
    | .Call (.Name f _) [a, .Name T _] [] _, .isI x t => decide (f = "isinstance") && decide (("isinstance" : Str) ∈ p.bls) && glB S.sc "isinstance" && decide (T = Str.ofString (tyN t)) && decide (T ∈ p.bls) && glB S.sc T && !starB a && okE p n S a x
    | .Call (.Name f _) (a :: r) [] _, .call i xs => decide (p.fns[i]? = some (f, (a :: r).length)) && glB S.sc f && nmB f && okL (okE p n S) (a :: r) xs
    | .Call (.Name f _) (a :: r) [] _, .blt b xs => okBl p S f b && okL (okE p n S) (a :: r) xs
    | .Call (.Attribute o m ap) (a :: r) [] cp, .mth m' x xs => decide (m = mtN m') && (ap.endLine == cp.line) && decide ((a :: r).length < 30) && !superB o && okE p n S o x && okL (okE p n S) (a :: r) xs
    | .ListComp elt [⟨tg, it, ifs, ia⟩] scope _, .lc x t i a own => okLc p (okE p n) S elt tg it ifs ia scope x t i a own
    | _, _ => false

/-! ### what is known where a block runs -/
structure PF (P : Program) (w : World) (K : PySem.W.Frag) (mg : Str → Option Value) (base : Heap) (cl : Nat → Addr) (p : PI0) (ρ : Nat → Den) (γ : Nat → D) (lv : Nat) : Prop where
  fn : ∀ (i : Nat) (x : Str) (np : Nat), p.fns[i]? = some (x, np) → ∃ (a : Addr) (fd : FuncData) (ps : List Str), mg x = some (.ref a) ∧ PySem.W.keepIn K (.ref a) = true ∧ Binds K fd ps [] ∧ FnOk P w K mg base (L2.CX P w) lv a fd ps (spOf K cl np (ρ i)) ∧ ∀ ds G, ds.length ≠ np → ρ i ds G = .bad
  gl : ∀ (g : Nat) (x : Str), p.gls[g]? = some x → ∃ (u : Value) (v : V), mg x = some u ∧ RelV v u ∧ ∀ H θ, RV K H θ (γ g) v
  bl : ∀ x ∈ p.bls, mg x = none
  mt : ∀ x id, (x, id) ∈ p.mts → mg x = some (.builtin id)
structure Gd (cl : Nat → Addr) (p : PI0) (ρ : Nat → Den) (γ : Nat → D) (lv : Nat) (S : SI) (W : WX) (X : Cx) : Prop where
  pf : PF X.prog X.w X.K X.mg X.base cl p ρ γ lv
  N : X.N = S.N
  nd : S.N.Nodup
  sc : X.env.scope = S.sc
  calm : X.calm = true
  fn : S.blk = false → ∀ x, X.fn x = true
  kind : S.blk = false → S.sc.kind = .function
  room : Room lv X.A
  takes : Takes X W

theorem kindOf_gl {X : Cx} {sc : Scope} {x : Str} (h : X.env.scope = sc) (g : glB sc x = true) : Gl X x := by
  subst h
  unfold glB at g
  show X.env.scope.names.lookup x = some .globalImplicit
  split at g
  · assumption
  · cases g
theorem vis_of {X : Cx} {sc : Scope} {x : Str} (h : X.env.scope = sc) (g : visB sc x = true) : Vis X.env.scope x := by
  subst h
  unfold visB at g
  unfold Vis
  split at g <;> first | (rename_i e; rw [e]; simp; done) | cases g
theorem star_list {env : PySem.Env} : ∀ {es : List Expr}, (∀ e ∈ es, starB e = false) → starEach es env = es.map fun e => (false, eval e env)
  | [], _ => rfl
  | e :: es, h => by
    have h1 := h e List.mem_cons_self
    have h2 := star_list (env := env) fun x hx => h x (List.mem_cons_of_mem _ hx)
    have h3 : starEach (e :: es) env = (false, eval e env) :: starEach es env := by
      cases e <;> first | rfl | cases h1
    rw [h3, h2]
    rfl
theorem star_cons {env : PySem.Env} {e : Expr} {es : List Expr} (h : starB e = false) : starEach (e :: es) env = (false, eval e env) :: starEach es env := by
  cases e <;> first | rfl | cases h
theorem back_any {env : PySem.Env} {es : List Expr} {pos : Pos} (h : ∀ e ∈ es, starB e = false) : (backTo pos (starEach es env)).any (·.1) = false := by
  rw [star_list h]
  unfold backTo
  rw [List.map_map, List.any_map]
  refine List.any_eq_false.mpr fun e _ => ?_
  simp
theorem back_all {env : PySem.Env} {es : List Expr} {pos : Pos} (h : ∀ e ∈ es, starB e = false) : ((backTo pos (starEach es env)).all fun x => !x.1) = true := by
  rw [star_list h]
  unfold backTo
  rw [List.map_map, List.all_map]
  refine List.all_eq_true.mpr fun e _ => ?_
  simp
theorem okL_star {f : Expr → IE → Bool} : ∀ {es : List Expr} {xs : IEs}, okL f es xs = true → ∀ e ∈ es, starB e = false
  | [], _, _, e, h => by cases h
  | a :: es, .nil, h, e, _ => by simp [okL] at h
  | a :: es, .cons x xs, h, e, hm => by
    simp only [okL, Bool.and_eq_true, Bool.not_eq_true'] at h
    rcases List.mem_cons.mp hm with z | z
    · rw [z]; exact h.1.1
    · exact okL_star h.2 e z
theorem plainIx_of {b : Expr} (h : sliceB b = false) : PlainIx b := fun o i => by
  cases b <;> first | rfl | cases h
theorem notCall_base {X : Cx} {o : Expr} {m : Str} (h : superB o = false) : attributeBase o m X.env (eval o X.env) = eval o X.env := by
  unfold attributeBase
  cases o <;> try rfl
  rename_i f as ks ps
  cases f <;> try rfl
  cases as <;> try rfl
  cases ks <;> first | rfl | cases h

theorem R.bind_assoc {α β δ : Type} (r : R α) (f : α → List PO → R β) (g : β → List PO → R δ) : (r.bind f).bind g = r.bind fun a G => (f a G).bind g := by cases r <;> rfl

section
variable {K : PySem.W.Frag} {cl : Nat → Addr} {W : WX} {θ : List Addr} {H : Hp} {env : Env} {σ : St} {G : List PO}
theorem ev_bind {β : Type} {W' : WK} {f : Env → List PO → R D} {g : D → List PO → R β} {k : β → List PO → List Addr → Hp → Prop} {Q : VK} (S : SR K θ G H) (e : ER K H θ env σ) (hW : ∀ c d H', W' c d H' → W c d σ H') (h : Go K cl W' θ H ((f env G).bind g) k)
    (q : ∀ d G1 θ1 H1 v, Fut θ H θ1 H1 → SR K θ1 G1 H1 → RV K H1 θ1 d v → Go K cl W' θ1 H1 (g d G1) k → Q v H1) : tE K cl W f σ H Q :=
  ⟨θ, env, G, S, e, Go.wish (Go.imp h.bind fun d G1 θ1 H1 f1 S1 g1 v r => q d G1 θ1 H1 v f1 S1 r g1) hW⟩
theorem ev_bindB {β : Type} {W' : WK} {f : Env → List PO → R D} {g : Bool → List PO → R β} {k : β → List PO → List Addr → Hp → Prop} {Q : Bool → Hp → Prop} (S : SR K θ G H) (e : ER K H θ env σ) (hW : ∀ c d H', W' c d H' → W c d σ H') (h : Go K cl W' θ H ((boolR (f env G)).bind g) k)
    (q : ∀ b G1 θ1 H1, Fut θ H θ1 H1 → SR K θ1 G1 H1 → Go K cl W' θ1 H1 (g b G1) k → Q b H1) : tT K cl W (fun env G => boolR (f env G)) σ H Q :=
  ⟨θ, env, G, S, e, Go.wish (Go.imp h.bind fun b G1 θ1 H1 f1 S1 g1 => q b G1 θ1 H1 f1 S1 g1) hW⟩
/-- a bool that is asked as a value -/
theorem ev_bool {β : Type} {W' : WK} {f : Env → List PO → R D} {g : Bool → List PO → R β} {k : β → List PO → List Addr → Hp → Prop} {Q : VK} (S : SR K θ G H) (e : ER K H θ env σ) (hW : ∀ c d H', W' c d H' → W c d σ H') (h : Go K cl W' θ H ((boolR (f env G)).bind g) k)
    (q : ∀ b G1 θ1 H1, Fut θ H θ1 H1 → SR K θ1 G1 H1 → Go K cl W' θ1 H1 (g b G1) k → Q (.bl b) H1) : tE K cl W f σ H Q := by
  unfold boolR at h
  rw [R.bind_assoc] at h
  refine ev_bind S e hW h fun d G1 θ1 H1 v f1 S1 r1 g1 => ?_
  cases d with
  | bl b =>
    cases r1
    exact q b G1 θ1 H1 f1 S1 g1
  | _ => exact g1.elim
end

theorem pe_imp {X : Cx} {e : Expr} {t t' : TE} (h : PE X e t) (i : ∀ σ H Q, t' σ H Q → t σ H Q) : PE X e t' := ⟨fun pins s σ H Q I q => h.run pins s σ H Q I (i σ H Q q)⟩
theorem pt_imp {X : Cx} {e : Expr} {t t' : TT} (h : PT X e t) (i : ∀ σ H Q, t' σ H Q → t σ H Q) : PT X e t' := ⟨fun pins s σ H Q I q => h.run pins s σ H Q I (i σ H Q q)⟩
theorem pw_imp {X : Cx} {e : Expr} {t t' : TT} (h : PW X e t) (i : ∀ σ H Q, t' σ H Q → t σ H Q) : PW X e t' := ⟨fun w pins s σ H Q I q => h.run w pins s σ H Q I (i σ H Q q)⟩
theorem pa_imp {X : Cx} {e : List Expr} {t t' : TA} (h : PA X e t) (i : ∀ σ H Q, t' σ H Q → t σ H Q) : PA X e t' := ⟨fun p pins s σ H Q I q => h.run p pins s σ H Q I (i σ H Q q)⟩
theorem pg_imp {X : Cx} {e : Expr} {t t' : TG} (h : PG X e t) (i : ∀ v σ H Q, t' v σ H Q → t v σ H Q) : PG X e t' := ⟨fun pins s σ H v u Q I r q => h.run pins s σ H v u Q I r (i v σ H Q q)⟩
theorem pgs_imp {X : Cx} {e : List Expr} {t t' : TGs} (h : PGs X e t) (i : ∀ v σ H Q, t' v σ H Q → t v σ H Q) : PGs X e t' := ⟨fun pins s σ H v u Q I r q => h.run pins s σ H v u Q I r (i v σ H Q q)⟩
theorem pi_imp {X : Cx} {tg e : Expr} {t t' : TI} (h : PI X tg e t) (i : ∀ σ H Q, t' σ H Q → t σ H Q) : PI X tg e t' := ⟨fun pins s σ H Q I q => h.run pins s σ H Q I (i σ H Q q)⟩

/-! ### the check's worth, by the depth -/
def SndE (cl : Nat → Addr) (p : PI0) (ρ : Nat → Den) (γ : Nat → D) (lv : Nat) (f : SI → Expr → IE → Bool) : Prop :=
  ∀ (S : SI) (W : WX) (X : Cx), Gd cl p ρ γ lv S W X → ∀ (e : Expr) (ie : IE), f S e ie = true →
    PE X e (tE X.K cl W (evE ρ γ ie)) ∧ (testB e = true → PT X e (tT X.K cl W fun env G => boolR (evE ρ γ ie env G))) ∧
      (∀ op vs pos, e = .BoolOp op vs pos → PW X e (tT X.K cl W fun env G => boolR (evE ρ γ ie env G)))
section
variable {cl : Nat → Addr} {p : PI0} {ρ : Nat → Den} {γ : Nat → D} {lv : Nat} {f : SI → Expr → IE → Bool} {S : SI} {W : WX} {X : Cx}

theorem sndL (hf : SndE cl p ρ γ lv f) (gd : Gd cl p ρ γ lv S W X) : ∀ {es : List Expr} {xs : IEs}, okL (f S) es xs = true → PA X es (tA X.K cl W (evEs ρ γ xs))
  | [], .nil, _ => pa_imp pa_nil fun σ H Q h => by
    obtain ⟨θ, env, G, S, e, g⟩ := h
    exact g.ok S [] .nil
  | [], .cons _ _, h => by simp [okL] at h
  | _ :: _, .nil, h => by simp [okL] at h
  | a :: es, .cons x xs, h => by
    simp only [okL, Bool.and_eq_true, Bool.not_eq_true'] at h
    refine pa_imp (pa_cons (hf S W X gd a x h.1.2).1 (sndL hf gd h.2) (star_cons h.1.1)) fun σ H Q q => ?_
    obtain ⟨θ, env, G, SS, e, g⟩ := q
    have g : Go X.K cl _ θ H ((evE ρ γ x env G).bind fun x G1 => (evEs ρ γ xs env G1).bind fun xs G2 => .ok (x :: xs) G2) _ := g
    refine ev_bind SS e (fun _ _ _ z => z) g fun d G1 θ1 H1 v f1 S1 r1 g1 => ?_
    refine ⟨θ1, env, G1, S1, e.mono SS f1, Go.imp g1.bind fun ds G2 θ2 H2 f2 S2 g2 vs rs => ?_⟩
    exact g2.ok S2 _ (.cons (r1.mono S1 f2) rs)
theorem sndO (hf : SndE cl p ρ γ lv f) (gd : Gd cl p ρ γ lv S W X) {lo : Option Expr} {l : IO} (h : okO1 (f S) lo l = true) : L2.PO X lo (fun σ H Q => ∃ θ env G, SR X.K θ G H ∧ ER X.K H θ env σ ∧ Go X.K cl (fun c d H' => W c d σ H') θ H (evO ρ γ l env G) fun o _ _ H' => Q o H') := by
  cases lo with
  | none =>
    cases l with
    | no =>
      refine ⟨fun pins s σ H Q I q => po_none.run pins s σ H Q I ?_⟩
      obtain ⟨θ, env, G, S, e, g⟩ := q
      exact g.ok S
    | so x => simp [okO1] at h
  | some a =>
    cases l with
    | no => simp [okO1] at h
    | so x =>
      refine ⟨fun pins s σ H Q I q => (po_some (hf S W X gd a x h).1).run pins s σ H Q I ?_⟩
      obtain ⟨θ, env, G, SS, e, g⟩ := q
      refine ev_bind SS e (fun _ _ _ z => z) g fun d G1 θ1 H1 v f1 S1 r1 g1 => ?_
      cases d with
      | int i => cases r1; exact ⟨i, rfl, g1.ok S1⟩
      | _ => exact g1.elim
end
end Pv
end SPvD
section SPvE
set_option Elab.async false
set_option linter.all false
set_option maxRecDepth 100000
/-! Targets, and what a loop walks. -/
namespace Pv
open PySem L2

/-! ### targets -/
theorem assign_len {env : PySem.Env} : ∀ {es : List Expr}, (∀ e ∈ es, starB e = false) → (assignEach es env).length = es.length ∧ (assignEach es env).findIdx? (·.1) = none ∧ ∀ e r, es = e :: r → (assignEach (e :: r) env).map (·.2) = assign e env :: (assignEach r env).map (·.2)
  | [], _ => ⟨rfl, rfl, fun _ _ h => nomatch h⟩
  | e :: es, h => by
    have h1 := h e List.mem_cons_self
    have h2 := assign_len (env := env) (es := es) fun x hx => h x (List.mem_cons_of_mem _ hx)
    have h3 : assignEach (e :: es) env = (false, assign e env) :: assignEach es env := by
      cases e <;> first | rfl | cases h1
    refine ⟨by rw [h3, List.length_cons, h2.1, List.length_cons], ?_, fun a r z => ?_⟩
    · rw [h3, List.findIdx?_cons]
      simp [h2.2.1]
    · cases z
      rw [h3]
      rfl
theorem sub_assign {X : Cx} {o i : Expr} {pos : Pos} (h : sliceB i = false) : ∀ v, assign (.Subscript o i pos) X.env v = (do
      let ov ← holding [v] (eval o X.env)
      let iv ← holding [v, ov] (eval i X.env)
      standAt pos
      holding [v, ov, iv] (setItem ov iv v)
      release [v, ov, iv] []) := fun v => by
  cases i <;> first | rfl | cases h
theorem okTg_len {S : SI} {f : Expr → IE → Bool} {n : Nat} : ∀ {es : List Expr} {ts : ITs}, okTg.go S f n es ts = true → es.length = ts.len ∧ ∀ e ∈ es, starB e = false
  | [], .nil, _ => ⟨rfl, fun _ h => by cases h⟩
  | [], .cons _ _, h => by simp [okTg.go] at h
  | _ :: _, .nil, h => by simp [okTg.go] at h
  | a :: es, .cons t ts, h => by
    simp only [okTg.go, Bool.and_eq_true, Bool.not_eq_true'] at h
    obtain ⟨h1, h2⟩ := okTg_len h.2
    refine ⟨by rw [List.length_cons, h1]; rfl, fun e hm => ?_⟩
    rcases List.mem_cons.mp hm with z | z
    · rw [z]; exact h.1.1
    · exact h2 e z
section
variable {cl : Nat → Addr} {p : PI0} {ρ : Nat → Den} {γ : Nat → D} {lv : Nat} {f : SI → Expr → IE → Bool} {S : SI} {W : WX} {X : Cx}
theorem Gd.hu (gd : Gd cl p ρ γ lv S W X) : X.A.units + 1 < cLine := by
  have := gd.room.un
  omega
theorem loc_of (gd : Gd cl p ρ γ lv S W X) {x : Str} (h : locB S x = true) : Loc X.env.scope x ∧ (X.fn x = true ∨ X.env.scope.names.lookup x = some .local) := by
  unfold locB at h
  rw [← gd.sc] at h
  split at h
  · rename_i e
    exact ⟨.inl e, .inr e⟩
  · rename_i e
    refine ⟨.inr e, .inl (gd.fn ?_ x)⟩
    simpa using h
  · cases h
/-- a wish with the slots, from an earlier state of them -/
theorem wAt_agr {as : List Nat} {σ σ' : St} (a : Agr as σ σ') {c : Value} {d : Option Addr} {H : Hp} (h : WAt W as σ c d H) : WAt W as σ' c d H := fun σ2 b => h σ2 (a.trans b)
theorem wAt_self {as : List Nat} {σ : St} {c : Value} {d : Option Addr} {H : Hp} (h : WAt W as σ c d H) : W c d σ H := h σ (Agr.refl as σ)
theorem sndT (hf : SndE cl p ρ γ lv f) (gd : Gd cl p ρ γ lv S W X) : ∀ (n : Nat) (e : Expr) (t : IT), okTg S (f S) n e t = true → PG X e (tG X.K cl W S.as (asT ρ γ t))
  | 0, _, _, h => by simp [okTg] at h
  | n + 1, e, t, h => by
    unfold okTg at h
    split at h
    · rename_i x ps i
      simp only [Bool.and_eq_true, decide_eq_true_eq] at h
      obtain ⟨h1, h2⟩ := loc_of gd h.1.2
      refine pg_imp (pg_name (i := i) (by rw [gd.N]; exact gd.nd) (by rw [gd.N]; exact h.1.1) h1 h2) fun v σ H Q q => ?_
      obtain ⟨θ, env, G, d, SS, e, r, g⟩ := q
      exact g.ok SS _ (e.set r) (Agr.set h.2)
    · rename_i es k ps ts
      obtain ⟨h1, h2⟩ := okTg_len h
      obtain ⟨a1, a2, _⟩ := assign_len (env := X.env) h2
      have all : ∀ (es : List Expr) (ts : ITs), okTg.go S (f S) n es ts = true → PGs X es (tGs X.K cl W S.as (asTs ρ γ ts)) := by
        intro es
        induction es with
        | nil =>
          intro ts h
          cases ts with
          | nil =>
            refine pgs_imp pgs_nil fun vs σ H Q q => ?_
            obtain ⟨θ, env, G, ds, SS, e, r, g⟩ := q
            cases ds with
            | nil =>
              cases r
              exact ⟨rfl, g.ok SS _ e (Agr.refl _ _)⟩
            | cons a b => exact g.elim
          | cons t ts => simp [okTg.go] at h
        | cons a es ih =>
          intro ts h
          cases ts with
          | nil => simp [okTg.go] at h
          | cons t ts =>
            have hst := (okTg_len h).2
            simp only [okTg.go, Bool.and_eq_true, Bool.not_eq_true'] at h
            refine pgs_imp (pgs_cons (sndT hf gd n a t h.1.2) (ih ts h.2) ((assign_len hst).2.2 _ _ rfl)) fun vs σ H Q q => ?_
            obtain ⟨θ, env, G, ds, SS, e, r, g⟩ := q
            cases ds with
            | nil => exact g.elim
            | cons d ds =>
              cases r with
              | cons r rr =>
                have g : Go X.K cl _ θ H ((asT ρ γ t d env G).bind fun env1 G1 => asTs ρ γ ts ds env1 G1) _ := g
                refine ⟨_, _, rfl, θ, env, G, d, SS, e, r, Go.imp g.bind fun env1 G1 θ1 H1 f1 S1 g1 σ1 e1 a1 => ?_⟩
                exact ⟨θ1, env1, G1, ds, S1, e1, RVs.mono SS f1 rr, Go.imp (Go.wish g1 fun c d H' z => wAt_agr a1 z) fun e2 G2 θ2 H2 f2 S2 k σ2 q1 q2 => k σ2 q1 (a1.trans q2)⟩
      refine pg_imp (pg_tup gd.calm (all es ts h) a1 a2) fun v σ H Q q => ?_
      obtain ⟨θ, env, G, d, SS, e, r, g⟩ := q
      cases d with
      | tup xs =>
        obtain ⟨a, vs, rfl, ha, ra⟩ := r.tup_inv
        have g : Go X.K cl _ θ H (if xs.length = ts.len then asTs ρ γ ts xs env G else .bad) _ := g
        split at g
        · rename_i hl
          exact ⟨a, vs, rfl, ha, by rw [← Paired.length ra, hl, h1], θ, env, G, xs, SS, e, ra, g⟩
        · exact g.elim
      | _ => exact g.elim
    · rename_i o i ps x y
      simp only [Bool.and_eq_true, Bool.not_eq_true'] at h
      refine pg_imp (pg_sub (hf S W X gd o x h.1.2).1 (hf S W X gd i y h.2).1 (stD (cl := cl) gd.hu) (sub_assign h.1.1)) fun v σ H Q q => ?_
      obtain ⟨θ, env, G, d, SS, e, r, g⟩ := q
      have g : Go X.K cl _ θ H ((evE ρ γ x env G).bind fun x G1 => (evE ρ γ y env G1).bind fun y G2 => (setF x y d G2).bind fun _ G3 => .ok env G3) _ := g
      refine ev_bind SS e (fun _ _ _ z => wAt_self z) g fun d1 G1 θ1 H1 v1 f1 S1 r1 g1 => ?_
      refine ev_bind S1 (e.mono SS f1) (fun _ _ _ z => wAt_self z) g1 fun d2 G2 θ2 H2 v2 f2 S2 r2 g2 => ?_
      refine ⟨_, θ2, G2, d1, d2, d, S2, r1.mono S1 f2, r2, (r.mono SS f1).mono S1 f2, Go.imp g2.bind fun _ G3 θ3 H3 f3 S3 g3 => ?_⟩
      exact g3.ok S3 σ (((e.mono SS f1).mono S1 f2).mono S2 f3) (Agr.refl _ _)
    · cases h
end

/-! ### what a loop walks -/
/-- the iterator J walks the items of src, as long as their list is left as it is -/
def JOk (K : PySem.W.Frag) (src : Src) (θ0 : List Addr) (H0 : Hp) (J : It) : Prop := ∀ θ G H, Fut θ0 H0 θ H → SR K θ G H → src.Ok G → ∀ i : Nat,
  (∀ d, src.2[i]? = some d → J.go i H ∧ ∀ x H', J.yld i H x H' → Fut θ H θ H' ∧ SR K θ G H' ∧ RV K H' θ d x) ∧ (src.2.length ≤ i → J.stop i H)
def tI (K : PySem.W.Frag) (cl : Nat → Addr) (W : WX) (f : Env → List PO → R Src) : TI := fun σ H R => ∃ θ env G, SR K θ G H ∧ ER K H θ env σ ∧ Go K cl (fun c d H' => W c d σ H') θ H (f env G) fun src _ θ' H' => ∀ J, JOk K src θ' H' J → R J H'
def iAny (K : PySem.W.Frag) (tl : TE) : TI := fun σ H R => tl σ H fun x H1 => ∃ a, x = .ref a ∧ ((∃ xs, SqL K H1 a xs ∧ R (Itl K a) H1) ∨ ∃ xs, SqT K H1 a xs ∧ R (Itt K a) H1)
theorem pi_any {X : Cx} {tg l : Expr} {tl : TE} (hl : PE X l tl) : PI X tg l (iAny X.K tl) := by
  refine ⟨fun pins s σ H R I h => ?_⟩
  refine thn (hl.run pins s σ H _ I h) fun v s1 ⟨x, H1, I1, r1, q1⟩ => ?_
  obtain ⟨a, e, q⟩ := q1
  subst e
  cases r1
  rcases q with ⟨xs, hq, q⟩ | ⟨xs, hq, q⟩
  · obtain ⟨its, rv, p, hz⟩ := I1.list hq
    refine wpAny_pyIter_list p.isList ?_
    refine ⟨s1.heap.objs.size, [s1.heap.objs.size], _, _, H1, rfl, I1.kept (t' := s1.toks) fun b o e => Heap.get?_push_of_some _ e, turn_list a _, ⟨_, Heap.get?_push_size _ rfl, rfl, rfl⟩, fun b hb => ?_, q⟩
    have e : b = s1.heap.objs.size := by simpa using hb
    subst e
    exact I1.fpOk (Nat.le_refl _) (I1.hok.fresh (Nat.le_refl _))
  · obtain ⟨its, rv, p, hz⟩ := I1.tuple hq
    refine wpAny_pyIter_tuple (show s1.heap.IsTuple a its.toArray from p) ?_
    refine ⟨s1.heap.objs.size, [s1.heap.objs.size], _, _, H1, rfl, I1.kept (t' := s1.toks) fun b o e => Heap.get?_push_of_some _ e, turn_tuple a _, ⟨_, Heap.get?_push_size _ rfl, rfl, rfl⟩, fun b hb => ?_, q⟩
    have e : b = s1.heap.objs.size := by simpa using hb
    subst e
    exact I1.fpOk (Nat.le_refl _) (I1.hok.fresh (Nat.le_refl _))
theorem rvs_get {K : PySem.W.Frag} {H : Hp} {θ : List Addr} {xs : List D} {vs : List V} (r : RVs K H θ xs vs) {i : Nat} {d : D} (h : xs[i]? = some d) : ∃ v, vs[i]? = some v ∧ RV K H θ d v := by
  have hj := (List.getElem?_eq_some_iff.mp h).1
  have hj2 : i < vs.length := by rw [← Paired.length r]; exact hj
  exact ⟨vs[i], List.getElem?_eq_getElem hj2, ix_paired r i d _ h (List.getElem?_eq_getElem hj2)⟩
theorem jok_list {K : PySem.W.Frag} {θ0 : List Addr} {H0 : Hp} {n : Nat} {a : Addr} {xs : List D} (h : θ0[n]? = some a) : JOk K (some n, xs) θ0 H0 (Itl K a) := fun θ G H f S ok i => by
  have e : G[n]? = some (.lst xs) := ok
  obtain ⟨vs, h1, r⟩ := S.lst (f.get h) e
  have sq : SqL K H a vs := .inl (.inl h1)
  refine ⟨fun d hd => ?_, fun hl => ⟨vs, sq, by rw [← Paired.length r]; exact hl⟩⟩
  obtain ⟨v, hv, rv⟩ := rvs_get r hd
  refine ⟨⟨vs, v, sq, hv⟩, fun x H' y => ?_⟩
  obtain ⟨rfl, y⟩ := y
  have := y vs sq
  rw [hv] at this
  cases this
  exact ⟨Fut.refl _ _, S, rv⟩
theorem jok_rol {K : PySem.W.Frag} {θ0 : List Addr} {G0 : List PO} {H0 : Hp} {a : Addr} {xs : List D} {vs : List V} (S0 : SR K θ0 G0 H0) (h : SqR K H0 a vs) (r : RVs K H0 θ0 xs vs) : JOk K (none, xs) θ0 H0 (Itl K a) := fun θ G H f S ok i => by
  have sq : SqL K H a vs := (S0.sqR f h).sq
  have r := RVs.mono S0 f r
  refine ⟨fun d hd => ?_, fun hl => ⟨vs, sq, by rw [← Paired.length r]; exact hl⟩⟩
  obtain ⟨v, hv, rv⟩ := rvs_get r hd
  refine ⟨⟨vs, v, sq, hv⟩, fun x H' y => ?_⟩
  obtain ⟨rfl, y⟩ := y
  have := y vs sq
  rw [hv] at this
  cases this
  exact ⟨Fut.refl _ _, S, rv⟩
theorem jok_tup {K : PySem.W.Frag} {θ0 : List Addr} {G0 : List PO} {H0 : Hp} {a : Addr} {xs : List D} {vs : List V} (S0 : SR K θ0 G0 H0) (h : SqT K H0 a vs) (r : RVs K H0 θ0 xs vs) : JOk K (none, xs) θ0 H0 (Itt K a) := fun θ G H f S ok i => by
  have sq : SqT K H a vs := S0.sqT f h
  have r := RVs.mono S0 f r
  refine ⟨fun d hd => ?_, fun hl => ⟨vs, sq, by rw [← Paired.length r]; exact hl⟩⟩
  obtain ⟨v, hv, rv⟩ := rvs_get r hd
  refine ⟨⟨vs, v, sq, hv⟩, fun x H' y => ?_⟩
  obtain ⟨rfl, y⟩ := y
  have := y vs sq
  rw [hv] at this
  cases this
  exact ⟨Fut.refl _ _, S, rv⟩
theorem jok_rng {K : PySem.W.Frag} {θ0 : List Addr} {H0 : Hp} {lo hi : Int} : JOk K (none, rngF lo hi) θ0 H0 (Itr lo (hi - lo).toNat) := fun θ G H f S ok i => by
  have hlen : (rngF lo hi).length = (hi - lo).toNat := by unfold rngF; simp
  refine ⟨fun d hd => ?_, fun hl => by show (hi - lo).toNat ≤ i; rw [← hlen]; exact hl⟩
  have hj : i < (hi - lo).toNat := by rw [← hlen]; exact (List.getElem?_eq_some_iff.mp hd).1
  refine ⟨hj, fun x H' y => ?_⟩
  obtain ⟨rfl, rfl⟩ := y
  unfold rngF at hd
  rw [List.getElem?_map, List.getElem?_range hj] at hd
  cases hd
  exact ⟨Fut.refl _ _, S, .int _⟩
section
variable {cl : Nat → Addr} {p : PI0} {ρ : Nat → Den} {γ : Nat → D} {lv : Nat} {f : SI → Expr → IE → Bool} {S : SI} {W : WX} {X : Cx}
theorem sndI (hf : SndE cl p ρ γ lv f) (gd : Gd cl p ρ γ lv S W X) {tg e : Expr} {it : II} (h : okIt p S (f S) e it = true) : PI X tg e (tI X.K cl W (evI ρ γ it)) := by
  unfold okIt at h
  split at h
  · rename_i x xp a q y
    simp only [Bool.and_eq_true, decide_eq_true_eq, Bool.not_eq_true'] at h
    obtain ⟨⟨⟨⟨h1, h2⟩, h3⟩, h4⟩, h5⟩ := h
    subst h1
    refine pi_imp (pi_range1 (kindOf_gl gd.sc h3) (gd.pf.bl _ h2) (pa_cons (hf S W X gd a y h5).1 pa_nil (star_cons h4)) (star_cons h4)) fun σ H R q => ?_
    obtain ⟨θ, env, G, SS, e, g⟩ := q
    have g : Go X.K cl _ θ H ((evE ρ γ y env G).bind fun x G1 => match x with
      | .int j => if -(2 ^ 62) ≤ j ∧ j < 2 ^ 62 then .ok (none, rngF 0 j) G1 else .bad
      | _ => .bad) _ := g
    refine ev_bind SS e (fun _ _ _ z => z) g fun d G1 θ1 H1 v f1 S1 r1 g1 => ?_
    cases d with
    | int j =>
      cases r1
      simp only at g1
      split at g1
      · rename_i hj
        refine ⟨j, rfl, hj.1, hj.2, ?_⟩
        have e0 : j.toNat = (j - 0).toNat := by simp
        rw [e0]
        exact g1.ok S1 _ jok_rng
      · exact g1.elim
    | _ => exact g1.elim
  · rename_i x xp a b q y z
    simp only [Bool.and_eq_true, decide_eq_true_eq, Bool.not_eq_true'] at h
    obtain ⟨⟨⟨⟨⟨⟨h1, h2⟩, h3⟩, h4⟩, h5⟩, h6⟩, h7⟩ := h
    subst h1
    have s1 : starEach [b] X.env = [(false, eval b X.env)] := star_cons h5
    refine pi_imp (pi_range2 (kindOf_gl gd.sc h3) (gd.pf.bl _ h2) (pa_cons (hf S W X gd a y h6).1 (pa_cons (hf S W X gd b z h7).1 pa_nil (star_cons h5)) (star_cons h4)) (by rw [star_cons h4, s1]) s1) fun σ H R q => ?_
    obtain ⟨θ, env, G, SS, e, g⟩ := q
    have g : Go X.K cl _ θ H ((evE ρ γ y env G).bind fun x G1 => (evE ρ γ z env G1).bind fun y G2 => match x, y with
      | .int i, .int j => if -(2 ^ 62) ≤ i ∧ i < 2 ^ 62 ∧ -(2 ^ 62) ≤ j ∧ j < 2 ^ 62 then .ok (none, rngF i j) G2 else .bad
      | _, _ => .bad) _ := g
    refine ev_bind SS e (fun _ _ _ z => z) g fun d G1 θ1 H1 v f1 S1 r1 g1 => ?_
    refine ev_bind S1 (e.mono SS f1) (fun _ _ _ z => z) g1 fun d2 G2 θ2 H2 v2 f2 S2 r2 g2 => ?_
    cases d with
    | int i =>
      cases d2 with
      | int j =>
        cases r1
        cases r2
        simp only at g2
        split at g2
        · rename_i hj
          exact ⟨i, j, rfl, hj, g2.ok S2 _ jok_rng⟩
        · exact g2.elim
      | _ => exact g2.elim
    | _ => exact g2.elim
  · rename_i y
    simp only [Bool.and_eq_true, Bool.not_eq_true'] at h
    refine pi_imp (pi_any (hf S W X gd _ y h.2).1) fun σ H R q => ?_
    obtain ⟨θ, env, G, SS, e, g⟩ := q
    have g : Go X.K cl _ θ H ((evE ρ γ y env G).bind fun x G1 => match srcF x G1 with | some s => .ok s G1 | none => .bad) _ := g
    refine ev_bind SS e (fun _ _ _ z => z) g fun d G1 θ1 H1 v f1 S1 r1 g1 => ?_
    cases d with
    | tup xs =>
      obtain ⟨a, vs, rfl, ha, ra⟩ := r1.tup_inv
      exact ⟨a, rfl, .inr ⟨vs, ha, g1.ok S1 _ (jok_tup S1 ha ra)⟩⟩
    | rol xs =>
      obtain ⟨a, vs, rfl, ha, ra⟩ := r1.rol_inv
      exact ⟨a, rfl, .inl ⟨vs, ha.sq, g1.ok S1 _ (jok_rol S1 ha ra)⟩⟩
    | obj n =>
      obtain ⟨a, rfl, ha⟩ := r1.obj_inv
      unfold srcF at g1
      simp only at g1
      cases e1 : G1[n]? with
      | none => rw [e1] at g1; exact g1.elim
      | some o =>
        rw [e1] at g1
        cases o with
        | lst xs =>
          obtain ⟨vs, h1, rl⟩ := S1.lst ha e1
          exact ⟨a, rfl, .inl ⟨vs, .inl (.inl h1), g1.ok S1 _ (jok_list ha)⟩⟩
        | dk kvs => exact g1.elim
    | _ => exact g1.elim
  · cases h
end
end Pv
end SPvE
section SPvF
set_option Elab.async false
set_option linter.all false
set_option maxRecDepth 100000
set_option maxHeartbeats 4000000
/-! The check's worth for every expression. -/
namespace Pv
open PySem L2

section
variable {K : PySem.W.Frag} {cl : Nat → Addr} {W : WX}
theorem tT_val {f : Env → List PO → R D} {σ : St} {H : Hp} {Q : Bool → Hp → Prop} (h : tT K cl W (fun env G => boolR (f env G)) σ H Q) : tB (tE K cl W f) σ H Q := by
  obtain ⟨θ, env, G, S, e, g⟩ := h
  have g : Go K cl _ θ H ((f env G).bind _) _ := g
  refine ev_bind S e (fun _ _ _ z => z) g fun d G1 θ1 H1 v f1 S1 r1 g1 => ?_
  cases d with
  | bl b => cases r1; exact ⟨b, rfl, g1.ok S1⟩
  | _ => exact g1.elim
end
section
variable {cl : Nat → Addr} {p : PI0} {ρ : Nat → Den} {γ : Nat → D} {lv : Nat} {f : SI → Expr → IE → Bool} {S : SI} {W : WX} {X : Cx}
abbrev Trip (cl : Nat → Addr) (ρ : Nat → Den) (γ : Nat → D) (W : WX) (X : Cx) (e : Expr) (ie : IE) : Prop :=
  PE X e (tE X.K cl W (evE ρ γ ie)) ∧ (testB e = true → PT X e (tT X.K cl W fun env G => boolR (evE ρ γ ie env G))) ∧
      (∀ op vs pos, e = .BoolOp op vs pos → PW X e (tT X.K cl W fun env G => boolR (evE ρ γ ie env G)))
theorem plain_true {env : PySem.Env} {e : Expr} (hp : plainB e = true) (whole : Sem Value) : isTrue e env whole = (do let v ← whole; standAt e.pos; holding [v] (truthy v)) := by
  cases e
  case UnaryOp o a p => cases o <;> first | rfl | exact absurd hp (by simp [plainB])
  case BoolOp => exact absurd hp (by simp [plainB])
  case IfExp => exact absurd hp (by simp [plainB])
  case Compare => exact absurd hp (by simp [plainB])
  all_goals rfl
theorem trip_plain {e : Expr} {ie : IE} (hp : plainB e = true) (h : PE X e (tE X.K cl W (evE ρ γ ie))) : Trip cl ρ γ W X e ie := by
  refine ⟨h, fun _ => pt_imp (pt_val h fun whole => plain_true hp whole) fun σ H Q q => tT_val q, fun op vs pos z => ?_⟩
  subst z; cases hp
theorem trip_cmp {e : Expr} {ie : IE} {t : TE} (hb : ∀ op vs pos, e ≠ .BoolOp op vs pos) (h : PE X e t) (h2 : PT X e (tB t)) (i : ∀ σ H Q, tE X.K cl W (evE ρ γ ie) σ H Q → t σ H Q) : Trip cl ρ γ W X e ie :=
  ⟨pe_imp h i, fun _ => pt_imp h2 fun σ H Q q => i σ H _ (tT_val q), fun op vs pos z => absurd z (hb op vs pos)⟩

theorem okK_len {f : Expr → IE → Bool} : ∀ {ks : List (Option Expr)} {vs : List Expr} {xs : IKs}, okK f ks vs xs = true → ks.all (·.isSome) = true ∧ ks.length = vs.length
  | [], [], .nil, _ => ⟨rfl, rfl⟩
  | some k :: ks, e :: es, .cons y x xs, h => by
    simp only [okK, Bool.and_eq_true] at h
    obtain ⟨h1, h2⟩ := okK_len h.2
    exact ⟨by simp [h1], by simp [h2]⟩
  | [], [], .cons _ _ _, h => by simp [okK] at h
  | [], _ :: _, _, h => by simp [okK] at h
  | none :: _, _, _, h => by simp [okK] at h
  | some _ :: _, [], _, h => by simp [okK] at h
  | some _ :: _, _ :: _, .nil, h => by simp [okK] at h

/-- the pairs of a dict display -/
theorem sndK (hf : SndE cl p ρ γ lv f) (gd : Gd cl p ρ γ lv S W X) (pos : Pos) : ∀ {ks : List (Option Expr)} {vs : List Expr} {xs : IKs}, okK (f S) ks vs xs = true →
    ∃ trs, PPs X pos ks vs trs ∧ ∀ σ H Q, (∃ θ env G, SR X.K θ G H ∧ ER X.K H θ env σ ∧ Go X.K cl (fun c d H' => W c d σ H') θ H (evK ρ γ xs env G) fun kvs G' θ' H' => ∀ ws, RKs X.K H' θ' kvs ws → Q (ws.map fun kv => (kV kv.1, kv.2)) H') → tPairs trs σ H Q
  | [], [], .nil, _ => ⟨[], pps_nil, fun σ H Q h => by
    obtain ⟨θ, env, G, S, e, g⟩ := h
    exact g.ok S [] .nil⟩
  | some k :: ks, e :: es, .cons y x xs, h => by
    simp only [okK, Bool.and_eq_true] at h
    obtain ⟨trs, h1, h2⟩ := sndK hf gd pos h.2
    refine ⟨_, pps_cons (hf S W X gd k y h.1.1).1 (hf S W X gd e x h.1.2).1 h1, fun σ H Q q => ?_⟩
    obtain ⟨θ, env, G, SS, e, g⟩ := q
    have g : Go X.K cl _ θ H ((evE ρ γ y env G).bind fun y G1 => (evE ρ γ x env G1).bind fun x G2 => match keyF y with
      | some z => (evK ρ γ xs env G2).bind fun r G3 => .ok ((z, x) :: r) G3
      | none => .bad) _ := g
    refine ev_bind SS e (fun _ _ _ z => z) g fun d G1 θ1 H1 v f1 S1 r1 g1 => ?_
    refine ev_bind S1 (e.mono SS f1) (fun _ _ _ z => z) g1 fun d2 G2 θ2 H2 v2 f2 S2 r2 g2 => ?_
    split at g2
    · rename_i z hz
      have ev := keyF_rv r1 hz
      subst ev
      refine h2 σ H2 _ ⟨θ2, env, G2, S2, (e.mono SS f1).mono S1 f2, Go.imp g2.bind fun kvs G3 θ3 H3 f3 S3 g3 ws rw' => ?_⟩
      exact g3.ok S3 ((z, v2) :: ws) (.cons ⟨rfl, r2.mono S2 f3⟩ rw')
    · exact g2.elim
  | [], [], .cons _ _ _, h => by simp [okK] at h
  | [], _ :: _, _, h => by simp [okK] at h
  | none :: _, _, _, h => by simp [okK] at h
  | some _ :: _, [], _, h => by simp [okK] at h
  | some _ :: _, _ :: _, .nil, h => by simp [okK] at h
theorem merge_rv {K : PySem.W.Frag} {H : Hp} {θ : List Addr} : ∀ {kvs : List (Key × D)} {ws : List (Key × V)} {a : List (Key × D)} {b : List (Key × V)}, RKs K H θ kvs ws → RKs K H θ a b → RKs K H θ (kvs.foldl (fun d (kv : Key × D) => setK d kv.1 kv.2) a) (mergeK b ws)
  | _, _, _, _, .nil, r => r
  | _, _, _, _, .cons q t, r => by
    unfold mergeK
    rw [List.foldl_cons, List.foldl_cons]
    refine merge_rv t ?_
    rw [← q.1]
    exact setK_rv q.2 r
theorem mt_facts (m : Mt) : PlainAttrs (mtT m) ∧ Slot (mtT m) (mtN m) (mtI m) ∧ typeOf (.builtin (mtI m)) = pure (.type "method_descriptor") := by
  cases m
  exact ⟨PySem.F.plainAttrs_list, PySem.F.slot_list_append, PySem.F.type_list_append⟩
theorem mtOk_ty {K : PySem.W.Frag} {θ : List Addr} {G : List PO} {H : Hp} {m : Mt} {d : D} {v : V} (S : SR K θ G H) (r : RV K H θ d v) (h : mtOk m d G = true) : tyV K (mtT m) v H := by
  unfold mtOk at h
  split at h
  · obtain ⟨a, rfl, ha⟩ := r.obj_inv
    split at h
    · rename_i xs e
      obtain ⟨vs, h1, rl⟩ := S.lst ha e
      exact .inl ⟨rfl, vs, .inl (.inl h1)⟩
    · cases h
  · cases h
theorem blk_gd {scope : Scope} {s : Shared} {H : Hp} {C : Addr} {c : List (Str × Addr)} {fp : List Addr} {as : List Nat} (gd : Gd cl p ρ γ lv S W X) :
    Gd cl p ρ γ lv (S.inner scope as) (fun _ _ _ _ => False) (X.blk s H scope (compEnvC scope c C X.env) fp) :=
  ⟨gd.pf, gd.N, gd.nd, by unfold SI.inner; rw [← gd.sc]; rfl, gd.calm, fun h => (nomatch h), fun h => (nomatch h), gd.room, takes0⟩
theorem wipe_get (σ : St) : ∀ (vs : List Nat) (i : Nat), (wipe σ vs)[i]? = if i ∈ vs ∧ i < σ.length then some none else σ[i]?
  | [], i => by simp [wipe]
  | v :: vs, i => by
    unfold wipe
    by_cases e : v = i
    · subst e
      by_cases h : v < σ.length
      · rw [List.getElem?_set_self (by rw [wipe_length]; exact h), if_pos ⟨List.mem_cons_self, h⟩]
      · rw [if_neg (fun z => h z.2), List.getElem?_eq_none (by simp [wipe_length]; omega), List.getElem?_eq_none (by omega)]
    · rw [List.getElem?_set_ne e, wipe_get σ vs i]
      by_cases h : i ∈ vs ∧ i < σ.length
      · rw [if_pos h, if_pos ⟨List.mem_cons_of_mem _ h.1, h.2⟩]
      · rw [if_neg h, if_neg]
        rintro ⟨h1, h2⟩
        rcases List.mem_cons.mp h1 with z | z
        · exact e z.symm
        · exact h ⟨z, h2⟩
theorem wipe_agr {σ σ2 : St} {vs : List Nat} (a : Agr vs (wipe σ vs) σ2) : wipe σ2 vs = wipe σ vs := by
  have hl : σ2.length = σ.length := by rw [a.1, wipe_length]
  refine List.ext_getElem? fun i => ?_
  rw [wipe_get, wipe_get, hl]
  by_cases h : i ∈ vs ∧ i < σ.length
  · rw [if_pos h, if_pos h]
  · rw [if_neg h, if_neg h]
    by_cases hi : i ∈ vs
    · have h2 : ¬ i < σ.length := fun z => h ⟨hi, z⟩
      rw [List.getElem?_eq_none (by omega), List.getElem?_eq_none (by omega)]
    · rw [a.2 i hi, wipe_get, if_neg h]

/-! ### one thing more stands in the heap -/
def er (H : Hp) (p : Addr) : Hp := fun b => if b = p then none else H b
theorem er_ne {H : Hp} {p b : Addr} (h : b ≠ p) : er H p b = H b := if_neg h
theorem er_same {H : Hp} {p : Addr} : er H p p = none := if_pos rfl
theorem upd_er {H : Hp} {p : Addr} {o : HO} : upd (er H p) p o = upd H p o := by
  funext b
  unfold upd er
  split <;> rfl
theorem upd_self {H : Hp} {p : Addr} {o : HO} (h : H p = some o) : upd H p o = H := by
  funext b
  unfold upd
  split
  · rename_i e; rw [e, h]
  · rfl
def lk (o : HO) : Prop := (∃ vs, o = .lst vs) ∨ ∃ ks, o = .dK ks
theorem rv_er {K : PySem.W.Frag} {H : Hp} {θ : List Addr} {p : Addr} {o : HO} (ho : lk o) (hp : H p = some o) {d : D} {v : V} (r : RV K H θ d v) : RV K (er H p) θ d v := by
  have nT : ∀ {a : Addr} {xs : List V}, SqT K H a xs → SqT K (er H p) a xs := by
    intro a xs h
    rcases h with (h | ⟨z, h⟩) | h
    · refine .inl (.inl ?_)
      rw [er_ne]; exact h
      intro e; subst e; rw [hp] at h; rcases ho with ⟨vs, rfl⟩ | ⟨ks, rfl⟩ <;> cases h
    · refine .inl (.inr ⟨z, ?_⟩)
      rw [er_ne]; exact h
      intro e; subst e; rw [hp] at h; rcases ho with ⟨vs, rfl⟩ | ⟨ks, rfl⟩ <;> cases h
    · exact .inr h
  have nR : ∀ {a : Addr} {xs : List V}, SqR K H a xs → SqR K (er H p) a xs := by
    intro a xs h
    rcases h with ⟨z, h⟩ | h
    · refine .inl ⟨z, ?_⟩
      rw [er_ne]; exact h
      intro e; subst e; rw [hp] at h; rcases ho with ⟨vs, rfl⟩ | ⟨ks, rfl⟩ <;> cases h
    · exact .inr h
  induction r with
  | non => exact .non
  | bl b => exact .bl b
  | int i => exact .int i
  | str x => exact .str x
  | tup h hl r ih => exact .tup (nT h) hl ih
  | rol h hl r ih => exact .rol (nR h) hl ih
  | obj h => exact .obj h
theorem sr_er {K : PySem.W.Frag} {H : Hp} {θ : List Addr} {G : List PO} {p : Addr} {o : HO} (ho : lk o) (hp : H p = some o) (np : p ∉ θ) (S : SR K θ G H) : SR K θ G (er H p) := ⟨S.len, S.nd, fun n a u h1 h2 => by
  have ne : a ≠ p := fun e => np (e ▸ List.mem_of_getElem? h1)
  have r := S.obj n a u h1 h2
  cases u with
  | lst xs => obtain ⟨vs, e, r⟩ := r; exact ⟨vs, by rw [er_ne ne]; exact e, Paired.mapP r fun _ _ h => rv_er ho hp h⟩
  | dk kvs => obtain ⟨ks, e, r⟩ := r; exact ⟨ks, by rw [er_ne ne]; exact e, Paired.mapP r fun _ _ h => ⟨h.1, rv_er ho hp h.2⟩⟩⟩
/-- a step over the heap with the thing at p: the step without it -/
structure Ov (K : PySem.W.Frag) (θ : List Addr) (Hb : Hp) (p : Addr) (o : HO) (θ' : List Addr) (G' : List PO) (H' : Hp) : Prop where
  at_ : H' p = some o
  np : p ∉ θ'
  fut : Fut θ Hb θ' (er H' p)
  sr : SR K θ' G' (er H' p)
theorem ov_step {K : PySem.W.Frag} {Hb : Hp} {θ θ' : List Addr} {G' : List PO} {p : Addr} {o : HO} {H' : Hp} (ho : lk o) (hb : Hb p = none) (np : p ∉ θ) (f : Fut θ (upd Hb p o) θ' H') (S : SR K θ' G' H') : Ov K θ Hb p o θ' G' H' := by
  have at_ : H' p = some o := f.fr p o upd_same np
  have np' : p ∉ θ' := f.out upd_same np
  refine ⟨at_, np', ⟨f.pre, fun a hm => ?_, fun a u h hn => ?_⟩, sr_er ho at_ np' S⟩
  · rcases f.new a hm with z | z
    · exact .inl z
    · have ne : a ≠ p := fun e => np' (e ▸ hm)
      rw [upd_ne ne] at z
      exact .inr z
  · have ne : a ≠ p := fun e => by rw [e, hb] at h; cases h
    rw [er_ne ne]
    exact f.fr a u (by rw [upd_ne ne]; exact h) hn
theorem Go.over {α : Type} {K : PySem.W.Frag} {W : WK} {Hb : Hp} {θ : List Addr} {p : Addr} {o : HO} {r : R α} {k : α → List PO → List Addr → Hp → Prop} (ho : lk o) (hb : Hb p = none) (np : p ∉ θ) (g : Go K cl W θ Hb r k) :
    Go K cl W θ (upd Hb p o) r fun a G' θ' H' => k a G' θ' (er H' p) := by
  cases r with
  | ok a G => exact fun θ' H' f S => have v := ov_step ho hb np f S; g θ' _ v.fut v.sr
  | exc c fs G => exact fun θ' H' dx fv f S h1 h2 => g θ' H' dx fv ((Fut.new1 hb).trans f) S h1 h2
  | bad => exact g

/-- the loop of a comprehension -/
theorem lc_core {K : PySem.W.Frag} {src : Src} {tgt : D → Env → List PO → R Env} {tst : Env → List PO → R Bool} {elt : Env → List PO → R D} {own : List Nat} {J : It} {θ1 : List Addr} {G1 : List PO} {H1 : Hp} {env : Env} {σ : St} {Q : VK} {W' : WK}
    (S1 : SR K θ1 G1 H1) (e1 : ER K H1 θ1 env σ) (jok : JOk K src θ1 H1 J) (hz : src.2.length ≤ sizeLine)
    (g : Go K cl W' θ1 H1 ((noExc (lcL src (fun x G => (tgt x (wipeE env own) G).bind fun env2 G2 => (tst env2 G2).bind fun b G3 => if b = true then (elt env2 G3).bind fun y G4 => .ok (some y) G4 else .ok none G3) src.2 G1)).bind fun ys G2 => .ok (.obj G2.length) (G2 ++ [.lst ys])) (vEnd K Q))
    (Dd : Addr) (hD : H1 Dd = none) : ∃ Wc : Nat → Nat → Hp → Prop, (∃ m, Wc 0 m (upd H1 Dd (.lst []))) ∧ ∀ i m H, Wc i m H →
      (J.stop i H ∧ Q (.ref Dd) H) ∨ (J.go i H ∧ ∃ Nx : Hp → Prop, (∀ H', Nx H' → ∃ m', m' < m ∧ Wc (i + 1) m' H') ∧ ∀ x H', J.yld i H x H' →
        tG K cl (fun _ _ _ _ => False) own tgt x (wipe σ own) H' fun σ2 H2 => wipe σ2 own = wipe σ own ∧ tT K cl (fun _ _ _ _ => False) tst σ2 H2 fun b H3 =>
          if b = true then tE K cl (fun _ _ _ _ => False) elt σ2 H3 fun y H4 => ∃ acc, H4 Dd = some (.lst acc) ∧ acc.length < sizeLine ∧ Nx (upd H4 Dd (.lst (acc ++ [y]))) else Nx H3) := by
  obtain ⟨turn, ht⟩ : ∃ t, t = (fun (x : D) (G : List PO) => (tgt x (wipeE env own) G).bind fun env2 G2 => (tst env2 G2).bind fun b G3 => if b = true then (elt env2 G3).bind fun y G4 => .ok (some y) G4 else .ok none G3) := ⟨_, rfl⟩
  rw [← ht] at g
  have g0 : Go K cl (fun _ _ _ => False) θ1 H1 (lcL src turn src.2 G1) (fun ys G2 θ2 H2 => Go K cl W' θ2 H2 (.ok (.obj G2.length) (G2 ++ [.lst ys])) (vEnd K Q)) := g.bind.noExc
  obtain ⟨St, hSt⟩ : ∃ St : Nat → Hp → Prop, St = fun i H => i ≤ src.2.length ∧ ∃ θ Hb G ys acc, H = upd Hb Dd (.lst acc) ∧ Hb Dd = none ∧ Dd ∉ θ ∧ SR K θ G Hb ∧ Fut θ1 H1 θ Hb ∧ RVs K Hb θ ys acc ∧ acc.length ≤ i ∧
      Go K cl (fun _ _ _ => False) θ Hb (lcL src turn (src.2.drop i) G) (fun zs G2 θ2 H2 => Go K cl W' θ2 H2 (.ok (.obj G2.length) (G2 ++ [.lst (ys ++ zs)])) (vEnd K Q)) := ⟨_, rfl⟩
  refine ⟨fun i m H => m = src.2.length - i ∧ St i H, ⟨src.2.length, by simp, ?_⟩, ?_⟩
  · rw [hSt]
    refine ⟨Nat.zero_le _, θ1, H1, G1, [], [], rfl, hD, S1.free hD, S1, Fut.refl _ _, .nil, Nat.zero_le _, ?_⟩
    rw [List.drop_zero]
    simpa using g0
  · rintro i m H ⟨rfl, st⟩
    have st0 := st
    rw [hSt] at st
    obtain ⟨hi, θ, Hb, G, ys, acc, rfl, hb, np, S, f, racc, hal, g⟩ := st
    have lkA : ∀ a : List V, lk (.lst a) := fun a => .inl ⟨a, rfl⟩
    have Su : SR K θ G (upd Hb Dd (.lst acc)) := S.new1 hb
    have fu : Fut θ1 H1 θ (upd Hb Dd (.lst acc)) := f.trans (Fut.new1 hb)
    by_cases hlt : i < src.2.length
    · right
      obtain ⟨x0, hx0⟩ : ∃ x0, src.2[i]? = some x0 := ⟨_, List.getElem?_eq_getElem hlt⟩
      have hdrop : src.2.drop i = x0 :: src.2.drop (i + 1) := by
        rw [List.drop_eq_getElem_cons hlt]
        rw [List.getElem?_eq_getElem hlt] at hx0
        cases hx0
        rfl
      rw [hdrop] at g
      unfold lcL at g
      split at g
      · rename_i hok
        obtain ⟨j1, _⟩ := jok θ G _ fu Su hok i
        obtain ⟨jgo, jy⟩ := j1 x0 hx0
        refine ⟨jgo, St (i + 1), fun H' n => ⟨src.2.length - (i + 1), by omega, rfl, n⟩, fun x H' y => ?_⟩
        obtain ⟨fy, Sy, rx⟩ := jy x H' y
        have v0 := ov_step (lkA acc) hb np fy Sy
        have eH' : H' = upd (er H' Dd) Dd (.lst acc) := by rw [upd_er, upd_self v0.at_]
        have ey : ER K H' θ (wipeE env own) (wipe σ own) := ((e1.mono S1 fu).mono Su fy).wipe own
        have g2 := Go.over (o := .lst acc) (lkA acc) er_same v0.np (Go.later v0.fut g.bind)
        rw [← eH', ht] at g2
        refine ⟨θ, _, G, x0, Sy, ey, rx, Go.imp (Go.wish g2.bind fun _ _ _ z => z.elim) fun env2 G2 θ2 H2 f2 S2 g3 σ2 e2 a2 => ?_⟩
        rw [eH'] at f2
        have v2 := ov_step (lkA acc) er_same v0.np f2 S2
        have eH2 : H2 = upd (er H2 Dd) Dd (.lst acc) := by rw [upd_er, upd_self v2.at_]
        refine ⟨wipe_agr a2, θ2, env2, G2, S2, e2, Go.imp g3.bind fun b G3 θ3 H3 f3 S3 g4 => ?_⟩
        have e3 := e2.mono S2 f3
        rw [eH2] at f3
        have v3 := ov_step (lkA acc) er_same v2.np f3 S3
        have eH3 : H3 = upd (er H3 Dd) Dd (.lst acc) := by rw [upd_er, upd_self v3.at_]
        have racc3 : RVs K (er H3 Dd) θ3 ys acc := RVs.mono v2.sr v3.fut (RVs.mono v0.sr v2.fut (RVs.mono S v0.fut racc))
        have f13 : Fut θ1 H1 θ3 (er H3 Dd) := ((f.trans v0.fut).trans v2.fut).trans v3.fut
        cases b with
        | true =>
          show if true = true then _ else _
          rw [if_pos rfl]
          refine ev_bind S3 e3 (fun _ _ _ z => z) (show Go K cl _ θ3 H3 ((elt env2 G3).bind fun y G4 => .ok (some y) G4) _ from g4) fun d G4 θ4 H4 v f4 S4 r4 g5 => ?_
          have g5 := g5.ok S4
          rw [eH3] at f4
          have v4 := ov_step (lkA acc) er_same v3.np f4 S4
          refine ⟨acc, v4.at_, by omega, ?_⟩
          rw [hSt]
          refine ⟨hlt, θ4, er H4 Dd, G4, ys ++ [d], acc ++ [v], by rw [upd_er], er_same, v4.np, v4.sr, f13.trans v4.fut, paired_append (RVs.mono v3.sr v4.fut racc3) (.cons (rv_er (lkA acc) v4.at_ r4) .nil), by simp; omega, ?_⟩
          rw [ht]
          refine Go.imp g5.bind fun zs G5 θ5 H5 f5 S5 g6 => ?_
          have g6 := g6.ok S5
          simpa using g6
        | false =>
          show if false = true then _ else _
          rw [if_neg Bool.false_ne_true]
          have g5 := Go.ok (show Go K cl _ θ3 H3 (.ok none G3) _ from g4) S3
          rw [hSt]
          refine ⟨hlt, θ3, er H3 Dd, G3, ys, acc, eH3, er_same, v3.np, v3.sr, f13, racc3, by omega, ?_⟩
          rw [ht]
          refine Go.imp g5.bind fun zs G5 θ5 H5 f5 S5 g6 => ?_
          have g6 := g6.ok S5
          simpa using g6
      · exact g.elim
    · left
      have e : i = src.2.length := by omega
      subst e
      rw [List.drop_length] at g
      unfold lcL at g
      split at g
      · rename_i hok
        obtain ⟨_, j2⟩ := jok θ G _ fu Su hok src.2.length
        refine ⟨j2 (Nat.le_refl _), ?_⟩
        have g := g.ok S
        rw [List.append_nil] at g
        exact go_lst S racc g Dd hb
      · exact g.elim
theorem bl_boot (b : Bl) (h : blMath b = none) : bootBuiltins (blName b) = some (blV b).val := by
  cases b <;> first | decide +kernel | (simp [blMath] at h)
theorem nm_of {x : Str} (h : nmB x = true) : (x == ("__debug__" : Str)) = false ∧ (x == ("__classdict__" : Str)) = false ∧ x ≠ "__name__" := by
  unfold nmB at h
  simp only [Bool.and_eq_true, decide_eq_true_eq] at h
  exact ⟨h.1.1, h.1.2, h.2⟩
theorem bl_nm (b : Bl) : blName b ≠ "__name__" ∧ (blName b == ("__debug__" : Str)) = false := by
  cases b <;> decide +kernel
theorem cmPy_mark (c : Cm) (b : Expr) : behindInMarks (cmPy c) b = false := by
  cases c <;> exact nomark b
theorem cmPy_last (c c' : Cm) (b d : Expr) : lastMarks [cmPy c, cmPy c'] [b, d] = false := cmPy_mark c' d

/-- the parts of a comprehension -/
theorem lc_parts {n : Nat} (hf : SndE cl p ρ γ lv (okE p n)) (gd : Gd cl p ρ γ lv S W X) {elt tg it : Expr} {ifs : List Expr} {scope : Scope} {ps : Pos} {x : IE} {t : IT} {i : II} {a : IEs} {own : List Nat}
    (h2 : blkC S.N S.sc scope (own.map fun i => (S.N.getD i "", i)) = true) (h3 : setB it = false) (h4 : okIt p S (okE p n S) it i = true) (h5 : okTg (S.inner scope own) (okE p n (S.inner scope own)) 4 tg t = true)
    (h6 : ifs.length ≤ 1) (h7 : ifs.all testB = true) (h8 : okL (okE p n (S.inner scope own)) ifs a = true) (h9 : okE p n (S.inner scope own) elt x = true) :
    PI X tg it (tI X.K cl W (evI ρ γ i)) ∧ BlkOk X.N X.env.scope scope (own.map fun i => (S.N.getD i "", i)) ∧
      (∀ (s : Shared) (H : Hp) (C : Addr) (c : List (Str × Addr)) (fp : List Addr), PG (X.blk s H scope (compEnvC scope c C X.env) fp) tg (tG X.K cl (fun _ _ _ _ => False) own (asT ρ γ t))) ∧
      (∀ (s : Shared) (H : Hp) (C : Addr) (c : List (Str × Addr)) (fp : List Addr), PTs (X.blk s H scope (compEnvC scope c C X.env) fp) ifs (tT X.K cl (fun _ _ _ _ => False) (evA ρ γ a))) ∧
      (∀ (s : Shared) (H : Hp) (C : Addr) (c : List (Str × Addr)) (fp : List Addr), PE (X.blk s H scope (compEnvC scope c C X.env) fp) elt (tE X.K cl (fun _ _ _ _ => False) (evE ρ γ x))) ∧
      (∀ v, foldedSetIterable it X.env v = pure v) ∧
      ∀ σ H Q, tE X.K cl W (evE ρ γ (.lc x t i a own)) σ H Q → tLc (tI X.K cl W (evI ρ γ i)) (tG X.K cl (fun _ _ _ _ => False) own (asT ρ γ t)) (tT X.K cl (fun _ _ _ _ => False) (evA ρ γ a)) (tE X.K cl (fun _ _ _ _ => False) (evE ρ γ x)) ((own.map fun i => (S.N.getD i "", i)).map (·.2)) σ H Q := by
  have own2 : (own.map fun i => (S.N.getD i "", i)).map (·.2) = own := by rw [List.map_map]; exact List.map_id _
  have hfold : ∀ v, foldedSetIterable it X.env v = pure v := fun v => by
    cases it <;> first | rfl | cases h3
  have hts : ∀ (s : Shared) (H : Hp) (C : Addr) (c : List (Str × Addr)) (fp : List Addr), PTs (X.blk s H scope (compEnvC scope c C X.env) fp) ifs (tT X.K cl (fun _ _ _ _ => False) (evA ρ γ a)) := by
    intro s H C c fp
    match ifs, a, h6, h7, h8 with
    | [], .nil, _, _, _ =>
      refine ⟨fun pins s σ H Q I q => pts_nil.run pins s σ H Q I ?_⟩
      obtain ⟨θ, env, G, SS, e, g⟩ := q
      exact g.ok SS
    | [tst], .cons z .nil, _, h7, h8 =>
      simp only [okL, Bool.and_eq_true, Bool.not_eq_true'] at h8
      have h7' : testB tst = true := by simpa using h7
      refine ⟨fun pins s σ H Q I q => (pts_one ((hf _ _ _ (blk_gd gd) tst z h8.1.2).2.1 h7')).run pins s σ H Q I ?_⟩
      obtain ⟨θ, env, G, SS, e, g⟩ := q
      have g : Go X.K cl _ θ H ((boolR (evE ρ γ z env G)).bind fun b G1 => if b = true then .ok true G1 else .ok false G1) _ := g
      refine ev_bindB SS e (fun _ _ _ z => z) g fun b G1 θ1 H1 f1 S1 g1 => ?_
      cases b with
      | true => exact g1.ok S1
      | false => exact g1.ok S1
    | [_], .cons _ (.cons _ _), _, _, h8 => simp [okL] at h8
    | [_], .nil, _, _, h8 => simp [okL] at h8
    | [], .cons _ _, _, _, h8 => simp [okL] at h8
    | _ :: _ :: _, _, h6, _, _ => simp at h6
  refine ⟨sndI hf gd (tg := tg) h4, blkOk_by (by rw [gd.N, gd.sc]; exact h2), fun s H C c fp => sndT hf (blk_gd gd) 4 tg t h5, hts, fun s H C c fp => (hf _ _ _ (blk_gd (as := own) gd) elt x h9).1, hfold, fun σ H Q q => ?_⟩
  rw [own2]
  obtain ⟨θ, env, G, SS, e, g⟩ := q
  have g : Go X.K cl _ θ H ((evI ρ γ i env G).bind fun src G1 => if src.2.length ≤ sizeLine then
    (noExc (lcL src (fun x' G => (asT ρ γ t x' (wipeE env own) G).bind fun env2 G2 => (evA ρ γ a env2 G2).bind fun b G3 => if b = true then (evE ρ γ x env2 G3).bind fun y G4 => .ok (some y) G4 else .ok none G3) src.2 G1)).bind
      fun ys G2 => R.ok (D.obj G2.length) (G2 ++ [.lst ys])
    else .bad) _ := g
  refine ⟨θ, env, G, SS, e, Go.imp g.bind fun src G1 θ1 H1 f1 S1 g1 J jok Dd hD => ?_⟩
  split at g1
  · rename_i hz
    exact lc_core S1 (e.mono SS f1) jok hz g1 Dd hD
  · exact g1.elim
theorem snd_succ (n : Nat) (hf : SndE cl p ρ γ lv (okE p n)) : SndE cl p ρ γ lv (okE p (n + 1)) := by
  intro S W X gd e ie h
  show Trip cl ρ γ W X e ie
  unfold okE at h
  split at h
  · -- a name in a slot
    rename_i x ps i
    simp only [Bool.and_eq_true, decide_eq_true_eq] at h
    obtain ⟨n1, n2, n3⟩ := nm_of h.2
    refine trip_plain rfl (pe_imp (pe_var (i := i) (by rw [gd.N]; exact h.1.1) (vis_of gd.sc h.1.2) n1 n2) fun σ H Q q => ?_)
    obtain ⟨θ, env, G, SS, e, g⟩ := q
    have g : Go X.K cl _ θ H (match env[i]? with | some (some d) => .ok d G | _ => .bad) _ := g
    split at g
    · rename_i d hd
      obtain ⟨v, h1, h2⟩ := e.2 i d hd
      exact ⟨v, h1, g.ok SS v h2⟩
    · exact g.elim
  · -- a constant of the module
    rename_i x ps gi
    simp only [Bool.and_eq_true, decide_eq_true_eq] at h
    obtain ⟨n1, n2, n3⟩ := nm_of h.2
    obtain ⟨u, v, h1, h2, h3⟩ := gd.pf.gl gi x h.1.1
    refine trip_plain rfl (pe_imp (pe_glob (kindOf_gl gd.sc h.1.2) h1 h2 n1) fun σ H Q q => ?_)
    obtain ⟨θ, env, G, SS, e, g⟩ := q
    exact g.ok SS v (h3 H θ)
  · -- a written constant
    rename_i c k ps d
    unfold okC at h
    split at h
    · simp only [decide_eq_true_eq] at h
      subst h
      exact trip_plain rfl (pe_imp pe_int fun σ H Q ⟨θ, env, G, SS, e, g⟩ => g.ok SS _ (.int _))
    · simp only [decide_eq_true_eq] at h
      subst h
      exact trip_plain rfl (pe_imp pe_bl fun σ H Q ⟨θ, env, G, SS, e, g⟩ => g.ok SS _ (.bl _))
    · simp only [decide_eq_true_eq] at h
      subst h
      exact trip_plain rfl (pe_imp pe_str fun σ H Q ⟨θ, env, G, SS, e, g⟩ => g.ok SS _ (.str _))
    · exact trip_plain rfl (pe_imp pe_non fun σ H Q ⟨θ, env, G, SS, e, g⟩ => g.ok SS _ .non)
    · cases h
  · -- a op b
    rename_i a o b ps o' x y
    simp only [Bool.and_eq_true, decide_eq_true_eq] at h
    obtain ⟨⟨rfl, h1⟩, h2⟩ := h
    refine trip_plain rfl (pe_imp (pe_op (opD (cl := cl) o') (hf S W X gd a x h1).1 (hf S W X gd b y h2).1) fun σ H Q q => ?_)
    obtain ⟨θ, env, G, SS, e, g⟩ := q
    have g : Go X.K cl _ θ H ((evE ρ γ x env G).bind fun x G1 => (evE ρ γ y env G1).bind fun y G2 => opF o' x y G2) _ := g
    refine ev_bind SS e (fun _ _ _ z => z) g fun d G1 θ1 H1 v f1 S1 r1 g1 => ?_
    refine ev_bind S1 (e.mono SS f1) (fun _ _ _ z => z) g1 fun d2 G2 θ2 H2 v2 f2 S2 r2 g2 => ?_
    exact ⟨_, θ2, G2, d, d2, S2, r1.mono S1 f2, r2, g2⟩
  · -- - a
    rename_i a ps x
    refine trip_plain rfl (pe_imp (pe_un un_neg (hf S W X gd a x h).1) fun σ H Q q => ?_)
    obtain ⟨θ, env, G, SS, e, g⟩ := q
    have g : Go X.K cl _ θ H ((evE ρ γ x env G).bind fun x G1 => match x with | .int i => R.ok (D.int (-i)) G1 | _ => .bad) _ := g
    refine ev_bind SS e (fun _ _ _ z => z) g fun d G1 θ1 H1 v f1 S1 r1 g1 => ?_
    cases d with
    | int i => cases r1; exact ⟨i, rfl, g1.ok S1 _ (.int _)⟩
    | _ => exact g1.elim
  · -- not a
    rename_i a ps x
    simp only [Bool.and_eq_true] at h
    have ha := hf S W X gd a x h.2
    refine ⟨pe_imp (pe_not ha.1) fun σ H Q q => ?_, fun _ => pt_imp (pt_not (ha.2.1 h.1)) fun σ H Q q => ?_, fun op vs pos z => nomatch z⟩
    · obtain ⟨θ, env, G, SS, e, g⟩ := q
      have g : Go X.K cl _ θ H ((boolR (evE ρ γ x env G)).bind fun c G1 => R.ok (D.bl (!c)) G1) _ := g
      exact ev_bool SS e (fun _ _ _ z => z) g fun b G1 θ1 H1 f1 S1 g1 => ⟨b, rfl, g1.ok S1 _ (.bl _)⟩
    · obtain ⟨θ, env, G, SS, e, g⟩ := q
      have g : Go X.K cl _ θ H (((boolR (evE ρ γ x env G)).bind fun c G1 => R.ok (D.bl (!c)) G1).bind _) _ := g
      rw [R.bind_assoc] at g
      exact ev_bindB SS e (fun _ _ _ z => z) g fun b G1 θ1 H1 f1 S1 g1 => g1.ok S1
  · -- a is None
    rename_i a k q1 q2 x
    have ha := hf S W X gd a x h
    refine trip_cmp (fun _ _ _ z => nomatch z) (pe_cmp (pc_isN ha.1)) (pt_cmp (pc_isN ha.1)) fun σ H Q q => ?_
    obtain ⟨θ, env, G, SS, e, g⟩ := q
    have g : Go X.K cl _ θ H ((evE ρ γ x env G).bind fun x G1 => R.ok (D.bl (match x with | .non => true | _ => false)) G1) _ := g
    refine ev_bind SS e (fun _ _ _ z => z) g fun d G1 θ1 H1 v f1 S1 r1 g1 => ?_
    have g1 := g1.ok S1 _ (.bl _)
    cases r1 <;> exact g1
  · rename_i a k q1 q2 x
    have ha := hf S W X gd a x h
    refine trip_cmp (fun _ _ _ z => nomatch z) (pe_cmp (pc_notN ha.1)) (pt_cmp (pc_notN ha.1)) fun σ H Q q => ?_
    obtain ⟨θ, env, G, SS, e, g⟩ := q
    have g : Go X.K cl _ θ H ((evE ρ γ x env G).bind fun x G1 => R.ok (D.bl (match x with | .non => false | _ => true)) G1) _ := g
    refine ev_bind SS e (fun _ _ _ z => z) g fun d G1 θ1 H1 v f1 S1 r1 g1 => ?_
    have g1 := g1.ok S1 _ (.bl _)
    cases r1 <;> exact g1
  · -- a < b
    rename_i a o b ps c x y
    simp only [Bool.and_eq_true, decide_eq_true_eq] at h
    obtain ⟨⟨rfl, h1⟩, h2⟩ := h
    have ha := (hf S W X gd a x h1).1
    have hb := (hf S W X gd b y h2).1
    refine trip_cmp (fun _ _ _ z => nomatch z) (pe_cmpR (cmD (cl := cl) c) ha hb (cmPy_mark c b)) (pt_cmpR (cmD (cl := cl) c) ha hb (cmPy_mark c b)) fun σ H Q q => ?_
    obtain ⟨θ, env, G, SS, e, g⟩ := q
    have g : Go X.K cl _ θ H ((evE ρ γ x env G).bind fun x G1 => (evE ρ γ y env G1).bind fun y G2 => okB (cmF c x y) G2) _ := g
    refine ev_bind SS e (fun _ _ _ z => z) g fun d G1 θ1 H1 v f1 S1 r1 g1 => ?_
    refine ev_bind S1 (e.mono SS f1) (fun _ _ _ z => z) g1 fun d2 G2 θ2 H2 v2 f2 S2 r2 g2 => ?_
    exact ⟨_, θ2, G2, d, d2, S2, r1.mono S1 f2, r2, g2⟩
  · -- a < b <= c
    rename_i a o o' b d ps c c' x y z
    simp only [Bool.and_eq_true, decide_eq_true_eq] at h
    obtain ⟨⟨⟨⟨rfl, rfl⟩, h1⟩, h2⟩, h3⟩ := h
    have ha := (hf S W X gd a x h1).1
    have hb := (hf S W X gd b y h2).1
    have hd := (hf S W X gd d z h3).1
    refine trip_cmp (fun _ _ _ z => nomatch z) (pe_chain (cmD (cl := cl) c) (cmD (cl := cl) c') ha hb hd (cmPy_last c c' b d)) (pt_chain (cmD (cl := cl) c) (cmD (cl := cl) c') ha hb hd (cmPy_last c c' b d)) fun σ H Q q => ?_
    obtain ⟨θ, env, G, SS, e, g⟩ := q
    have g : Go X.K cl _ θ H ((evE ρ γ x env G).bind fun u G1 => (evE ρ γ y env G1).bind fun v G2 => match cmF c u v with
      | some true => (evE ρ γ z env G2).bind fun w G3 => okB (cmF c' v w) G3
      | some false => R.ok (D.bl false) G2
      | none => .bad) _ := g
    refine ev_bind SS e (fun _ _ _ z => z) g fun d1 G1 θ1 H1 v f1 S1 r1 g1 => ?_
    refine ev_bind S1 (e.mono SS f1) (fun _ _ _ z => z) g1 fun d2 G2 θ2 H2 v2 f2 S2 r2 g2 => ?_
    have e2 := (e.mono SS f1).mono S1 f2
    split at g2
    · rename_i hc
      refine ⟨fun _ _ _ => False, θ2, G2, d1, d2, S2, r1.mono S1 f2, r2, ?_⟩
      rw [hc]
      refine fun θ3 H3 f3 S3 v3 r3 => ?_
      cases r3
      refine ⟨true, rfl, ?_⟩
      show if true = true then _ else _
      rw [if_pos rfl]
      refine ev_bind S3 (e2.mono S2 f3) (fun _ _ _ z => z) (Go.later f3 g2) fun d3 G4 θ4 H4 v4 f4 S4 r4 g4 => ?_
      exact ⟨_, θ4, G4, d2, d3, S4, (r2.mono S2 f3).mono S3 f4, r4, g4⟩
    · rename_i hc
      refine ⟨fun _ _ _ => False, θ2, G2, d1, d2, S2, r1.mono S1 f2, r2, ?_⟩
      rw [hc]
      refine fun θ3 H3 f3 S3 v3 r3 => ?_
      cases r3
      refine ⟨false, rfl, ?_⟩
      show if false = true then _ else _
      rw [if_neg Bool.false_ne_true]
      exact (Go.later f3 g2).ok S3 _ (.bl _)
    · exact g2.elim
  · -- a and ..
    rename_i a b r ps x y
    simp only [Bool.and_eq_true] at h
    have ha := hf S W X gd a x h.1.2
    have hb := hf S W X gd _ y h.2
    have hw : PW X (.BoolOp .And (a :: b :: r) ps) (tT X.K cl W fun env G => boolR (evE ρ γ (.and x y) env G)) := by
      refine pw_imp (pw_and (ha.2.1 h.1.1) (hb.2.2 _ _ _ rfl)) fun σ H Q q => ?_
      obtain ⟨θ, env, G, SS, e, g⟩ := q
      have g : Go X.K cl _ θ H (((boolR (evE ρ γ x env G)).bind fun c G1 => if c = true then (boolR (evE ρ γ y env G1)).bind fun c G2 => R.ok (D.bl c) G2 else R.ok (D.bl false) G1).bind _) _ := g
      rw [R.bind_assoc] at g
      refine ev_bindB SS e (fun _ _ _ z => z) g fun c G1 θ1 H1 f1 S1 g1 => ?_
      cases c with
      | true =>
        show if true = true then _ else _
        rw [if_pos rfl]
        simp only [if_true, R.bind_assoc] at g1
        exact ev_bindB S1 (e.mono SS f1) (fun _ _ _ z => z) g1 fun c2 G2 θ2 H2 f2 S2 g2 => g2.ok S2
      | false =>
        show if false = true then _ else _
        rw [if_neg Bool.false_ne_true]
        exact g1.ok S1
    refine ⟨pe_imp (pe_and ha.1 hb.1) fun σ H Q q => ?_, fun _ => hw.pt, fun op vs pos z => by cases z; exact hw⟩
    obtain ⟨θ, env, G, SS, e, g⟩ := q
    have g : Go X.K cl _ θ H ((boolR (evE ρ γ x env G)).bind fun c G1 => if c = true then (boolR (evE ρ γ y env G1)).bind fun c G2 => R.ok (D.bl c) G2 else R.ok (D.bl false) G1) _ := g
    refine ev_bool SS e (fun _ _ _ z => z) g fun c G1 θ1 H1 f1 S1 g1 => ⟨c, rfl, ?_⟩
    cases c with
    | true =>
      rw [if_pos rfl]
      simp only [if_true] at g1
      exact ev_bool S1 (e.mono SS f1) (fun _ _ _ z => z) g1 fun c2 G2 θ2 H2 f2 S2 g2 => g2.ok S2 _ (.bl _)
    | false =>
      rw [if_neg Bool.false_ne_true]
      exact g1.ok S1 _ (.bl _)
  · -- a or ..
    rename_i a b r ps x y
    simp only [Bool.and_eq_true] at h
    have ha := hf S W X gd a x h.1.2
    have hb := hf S W X gd _ y h.2
    have hw : PW X (.BoolOp .Or (a :: b :: r) ps) (tT X.K cl W fun env G => boolR (evE ρ γ (.or x y) env G)) := by
      refine pw_imp (pw_or (ha.2.1 h.1.1) (hb.2.2 _ _ _ rfl)) fun σ H Q q => ?_
      obtain ⟨θ, env, G, SS, e, g⟩ := q
      have g : Go X.K cl _ θ H (((boolR (evE ρ γ x env G)).bind fun c G1 => if c = true then R.ok (D.bl true) G1 else (boolR (evE ρ γ y env G1)).bind fun c G2 => R.ok (D.bl c) G2).bind _) _ := g
      rw [R.bind_assoc] at g
      refine ev_bindB SS e (fun _ _ _ z => z) g fun c G1 θ1 H1 f1 S1 g1 => ?_
      cases c with
      | true =>
        show if true = true then _ else _
        rw [if_pos rfl]
        exact g1.ok S1
      | false =>
        show if false = true then _ else _
        rw [if_neg Bool.false_ne_true]
        simp only [Bool.false_eq_true, if_false, R.bind_assoc] at g1
        exact ev_bindB S1 (e.mono SS f1) (fun _ _ _ z => z) g1 fun c2 G2 θ2 H2 f2 S2 g2 => g2.ok S2
    refine ⟨pe_imp (pe_or ha.1 hb.1) fun σ H Q q => ?_, fun _ => hw.pt, fun op vs pos z => by cases z; exact hw⟩
    obtain ⟨θ, env, G, SS, e, g⟩ := q
    have g : Go X.K cl _ θ H ((boolR (evE ρ γ x env G)).bind fun c G1 => if c = true then R.ok (D.bl true) G1 else (boolR (evE ρ γ y env G1)).bind fun c G2 => R.ok (D.bl c) G2) _ := g
    refine ev_bool SS e (fun _ _ _ z => z) g fun c G1 θ1 H1 f1 S1 g1 => ⟨c, rfl, ?_⟩
    cases c with
    | true =>
      rw [if_pos rfl]
      exact g1.ok S1 _ (.bl _)
    | false =>
      rw [if_neg Bool.false_ne_true]
      simp only [Bool.false_eq_true, if_false] at g1
      exact ev_bool S1 (e.mono SS f1) (fun _ _ _ z => z) g1 fun c2 G2 θ2 H2 f2 S2 g2 => g2.ok S2 _ (.bl _)
  · -- one item
    rename_i op a ps
    simp only [Bool.and_eq_true] at h
    have ha := hf S W X gd a ie h.2
    have hw : PW X (.BoolOp op [a] ps) (tT X.K cl W fun env G => boolR (evE ρ γ ie env G)) := by
      cases op with
      | And => exact pw_and1 (ha.2.1 h.1)
      | Or => exact pw_or1 (ha.2.1 h.1)
    exact ⟨pe_one ha.1, fun _ => hw.pt, fun op vs pos z => by cases z; exact hw⟩
  · -- a if c else b
    rename_i c a b ps z x y
    simp only [Bool.and_eq_true] at h
    refine ⟨pe_imp (pe_ifExp ((hf S W X gd c z h.1.1.2).2.1 h.1.1.1) (hf S W X gd a x h.1.2).1 (hf S W X gd b y h.2).1) fun σ H Q q => ?_, fun z => by simp [testB] at z, fun op vs pos z => by cases z⟩
    obtain ⟨θ, env, G, SS, e, g⟩ := q
    have g : Go X.K cl _ θ H ((boolR (evE ρ γ z env G)).bind fun k G1 => if k = true then evE ρ γ x env G1 else evE ρ γ y env G1) _ := g
    refine ev_bindB SS e (fun _ _ _ z => z) g fun k G1 θ1 H1 f1 S1 g1 => ?_
    cases k with
    | true =>
      show if true = true then _ else _
      rw [if_pos rfl]
      exact ⟨θ1, env, G1, S1, e.mono SS f1, g1⟩
    | false =>
      show if false = true then _ else _
      rw [if_neg Bool.false_ne_true]
      exact ⟨θ1, env, G1, S1, e.mono SS f1, g1⟩
  · -- a tuple
    rename_i es k ps xs
    refine trip_plain rfl (pe_imp (pe_tup (sndL hf gd h)) fun σ H Q q => ?_)
    obtain ⟨θ, env, G, SS, e, g⟩ := q
    have g : Go X.K cl _ θ H ((evEs ρ γ xs env G).bind fun xs G1 => if xs.length ≤ sizeLine then R.ok (D.tup xs) G1 else .bad) _ := g
    refine ⟨θ, env, G, SS, e, Go.imp g.bind fun ds G1 θ1 H1 f1 S1 g1 vs r => ?_⟩
    split at g1
    · rename_i hz
      exact ⟨by rw [← Paired.length r]; exact hz, fun p hp => go_tup S1 r g1 p hp⟩
    · exact g1.elim
  · rename_i es ps xs
    refine trip_plain rfl (pe_imp (pe_lst (sndL hf gd h)) fun σ H Q q => ?_)
    obtain ⟨θ, env, G, SS, e, g⟩ := q
    have g : Go X.K cl _ θ H ((evEs ρ γ xs env G).bind fun xs G1 => if xs.length ≤ sizeLine then R.ok (D.obj G1.length) (G1 ++ [.lst xs]) else .bad) _ := g
    refine ⟨θ, env, G, SS, e, Go.imp g.bind fun ds G1 θ1 H1 f1 S1 g1 vs r => ?_⟩
    split at g1
    · rename_i hz
      exact ⟨by rw [← Paired.length r]; exact hz, fun p hp => go_lst S1 r g1 p hp⟩
    · exact g1.elim
  · -- a dict
    rename_i ks vs ps xs
    simp only [Bool.and_eq_true, decide_eq_true_eq] at h
    obtain ⟨trs, h1, h2⟩ := sndK hf gd ps h.2
    obtain ⟨l1, l2⟩ := okK_len h.2
    by_cases hk : ks = []
    · subst hk
      have hv : vs = [] := List.eq_nil_of_length_eq_zero (by simpa using l2.symm)
      subst hv
      have hx : xs = .nil := by cases xs with | nil => rfl | cons _ _ _ => simp [okK] at h
      subst hx
      refine trip_plain rfl (pe_imp pe_dnewK fun σ H Q q => ?_)
      obtain ⟨θ, env, G, SS, e, g⟩ := q
      exact fun p hp => go_dk (ds := []) SS .nil g p hp
    · refine trip_plain rfl (pe_imp (pe_disp h1 l1 l2 hk h.1) fun σ H Q q => ?_)
      obtain ⟨θ, env, G, SS, e, g⟩ := q
      have g : Go X.K cl _ θ H ((evK ρ γ xs env G).bind fun kvs G1 => if kvs.length ≤ 15 then R.ok (D.obj G1.length) (G1 ++ [.dk (kvs.foldl (fun d (kv : Key × D) => setK d kv.1 kv.2) [])]) else .bad) _ := g
      intro pp hp
      have lkD : lk (.dK []) := .inr ⟨[], rfl⟩
      refine h2 σ _ _ ⟨θ, env, G, SS.new1 hp, e.mono SS (Fut.new1 hp), Go.imp (Go.over lkD hp (SS.free hp) g.bind) fun kvs G1 θ1 H1 f1 S1 g1 ws r => ?_⟩
      have v1 := ov_step lkD hp (SS.free hp) f1 S1
      split at g1
      case isFalse => exact g1.elim
      rename_i hlen
      refine ⟨v1.at_, ws, rfl, by rw [← Paired.length r]; exact hlen, ?_⟩
      have r' : RKs X.K (er H1 pp) θ1 kvs ws := Paired.mapP r fun _ _ h => ⟨h.1, rv_er lkD v1.at_ h.2⟩
      have := go_dk v1.sr (merge_rv r' (a := []) (b := []) .nil) g1 pp er_same
      rw [upd_er] at this
      exact this
  · -- a slice
    rename_i a lo hi p2 ps x l hh
    simp only [Bool.and_eq_true] at h
    refine trip_plain rfl (pe_imp (pe_slice (slD (cl := cl)) (hf S W X gd a x h.1.1).1 (sndO hf gd h.1.2) (sndO hf gd h.2)) fun σ H Q q => ?_)
    obtain ⟨θ, env, G, SS, e, g⟩ := q
    have g : Go X.K cl _ θ H ((evE ρ γ x env G).bind fun x G1 => (evO ρ γ l env G1).bind fun l G2 => (evO ρ γ hh env G2).bind fun h G3 => slF x l h G3) _ := g
    refine ev_bind SS e (fun _ _ _ z => z) g fun d G1 θ1 H1 v f1 S1 r1 g1 => ?_
    refine ⟨θ1, env, G1, S1, e.mono SS f1, Go.imp g1.bind fun o1 G2 θ2 H2 f2 S2 g2 => ?_⟩
    refine ⟨θ2, env, G2, S2, (e.mono SS f1).mono S1 f2, Go.imp g2.bind fun o2 G3 θ3 H3 f3 S3 g3 => ?_⟩
    exact ⟨_, θ3, G3, d, S3, (r1.mono S1 f2).mono S2 f3, g3⟩
  · -- a[b]
    rename_i a b ps x y
    simp only [Bool.and_eq_true, Bool.not_eq_true'] at h
    refine trip_plain rfl (pe_imp (pe_ix (ixD (cl := cl) gd.hu) (hf S W X gd a x h.1.2).1 (hf S W X gd b y h.2).1 (plainIx_of h.1.1)) fun σ H Q q => ?_)
    obtain ⟨θ, env, G, SS, e, g⟩ := q
    have g : Go X.K cl _ θ H ((evE ρ γ x env G).bind fun x G1 => (evE ρ γ y env G1).bind fun y G2 => ixF x y G2) _ := g
    refine ev_bind SS e (fun _ _ _ z => z) g fun d G1 θ1 H1 v f1 S1 r1 g1 => ?_
    refine ev_bind S1 (e.mono SS f1) (fun _ _ _ z => z) g1 fun d2 G2 θ2 H2 v2 f2 S2 r2 g2 => ?_
    exact ⟨_, θ2, G2, d, d2, S2, r1.mono S1 f2, r2, g2⟩
  · -- isinstance
    rename_i fx q1 a T q2 ps x t
    simp only [Bool.and_eq_true, decide_eq_true_eq, Bool.not_eq_true'] at h
    obtain ⟨⟨⟨⟨⟨⟨⟨h1, h2⟩, h3⟩, h4⟩, h5⟩, h6⟩, h7⟩, h8⟩ := h
    subst h1
    have hT : bootBuiltins T = some (.type (tyN t)) ∧ T ≠ "__name__" ∧ (T == ("__debug__" : Str)) = false := by
      subst h4
      cases t <;> exact ⟨by decide +kernel, by decide +kernel, by decide +kernel⟩
    have hTe : PE X (.Name T q2) (tC (.ty (tyN t))) := pe_bltn (u := .type (tyN t)) (v := .ty (tyN t)) (kindOf_gl gd.sc h6) (gd.pf.bl _ h5) hT.1 rfl hT.2.1 hT.2.2
    have hst : ∀ e ∈ [Expr.Name T q2], starB e = false := fun e hm => by
      have : e = Expr.Name T q2 := by simpa using hm
      subst this
      rfl
    refine trip_plain rfl (pe_imp (pe_callB call_isi (kindOf_gl gd.sc h3) (gd.pf.bl _ h2) (by decide +kernel) (pa_cons (hf S W X gd a x h8).1 (pa_cons hTe pa_nil (star_cons rfl)) (star_cons h7)) (by decide) (by decide) (star_cons h7) (back_any hst)) fun σ H Q q => ?_)
    obtain ⟨θ, env, G, SS, e, g⟩ := q
    have g : Go X.K cl _ θ H ((evE ρ γ x env G).bind fun x G1 => okB (isF x t G1) G1) _ := g
    refine ev_bind SS e (fun _ _ _ z => z) g fun d G1 θ1 H1 v f1 S1 r1 g1 => ?_
    cases hi : isF d t G1 with
    | none => rw [hi] at g1; exact g1.elim
    | some b =>
      rw [hi] at g1
      obtain ⟨T', h9, h10⟩ := isF_sound S1 r1 hi
      exact ⟨v, .ty (tyN t), .type T', .type (tyN t), b, rfl, .ty _, h9, h10, g1.ok S1 _ (.bl b)⟩
  · -- a call of a def
    rename_i fx q1 a r ps i xs
    simp only [Bool.and_eq_true, decide_eq_true_eq] at h
    obtain ⟨⟨⟨h1, h2⟩, h3⟩, h4⟩ := h
    obtain ⟨n1, n2, n3⟩ := nm_of h3
    obtain ⟨fa, fd, pns, p1, p2, p3, p4, p5⟩ := gd.pf.fn i fx _ h1
    have hst := okL_star h4
    refine trip_plain rfl (pe_imp (pe_callSD (E := WE W) p4 gd.room (kindOf_gl gd.sc h2) p1 p2 p3 .nil (fun σ => passAt gd.takes σ) (sndL hf gd h4) n1 (star_cons (hst a List.mem_cons_self)) (back_any fun e hm => hst e (List.mem_cons_of_mem _ hm))) fun σ H Q q => ?_)
    obtain ⟨θ, env, G, SS, e, g⟩ := q
    have g : Go X.K cl _ θ H ((evEs ρ γ xs env G).bind fun xs G1 => ρ i xs G1) _ := g
    refine ⟨θ, env, G, SS, e, Go.imp g.bind fun ds G1 θ1 H1 f1 S1 g1 vs rs => ?_⟩
    show spOf X.K cl (a :: r).length (ρ i) (vs ++ []) H1 Q (WE W σ)
    rw [List.append_nil]
    refine ⟨?_, θ1, G1, ds, S1, rs, g1⟩
    rw [← Paired.length rs]
    by_cases hl : ds.length = (a :: r).length
    · exact hl
    · rw [p5 ds G1 hl] at g1
      exact g1.elim
  · -- a built-in function
    rename_i fx q1 a r ps b xs
    simp only [Bool.and_eq_true] at h
    obtain ⟨h1, h4⟩ := h
    unfold okBl at h1
    simp only [Bool.and_eq_true, decide_eq_true_eq] at h1
    obtain ⟨⟨rfl, h2⟩, h3⟩ := h1
    have hst := okL_star h4
    obtain ⟨m1, m2⟩ := bl_nm b
    have s1 : starEach (a :: r) X.env = (false, eval a X.env) :: starEach r X.env := star_cons (hst a List.mem_cons_self)
    have s2 : (backTo ps (starEach r X.env)).any (·.1) = false := back_any fun e hm => hst e (List.mem_cons_of_mem _ hm)
    have rd : ∀ σ H Q, tE X.K cl W (evE ρ γ (.blt b xs)) σ H Q → tCB (rBlD X.K cl b) (tA X.K cl W (evEs ρ γ xs)) σ H Q := by
      intro σ H Q q
      obtain ⟨θ, env, G, SS, e, g⟩ := q
      have g : Go X.K cl _ θ H ((evEs ρ γ xs env G).bind fun xs G1 => bltF b xs G1) _ := g
      exact ⟨θ, env, G, SS, e, Go.imp g.bind fun ds G1 θ1 H1 f1 S1 g1 vs rs => ⟨_, θ1, G1, ds, S1, rs, g1⟩⟩
    refine trip_plain rfl (pe_imp ?_ rd)
    cases hm : blMath b with
    | some id =>
      rw [hm] at h3
      simp only [decide_eq_true_eq] at h3
      have hv : (blV b) = .bi id := by cases b <;> first | (simp [blMath] at hm; done) | (simp only [blMath, Option.some.injEq] at hm; subst hm; rfl)
      have hc : CallR X (.builtin id) (rBlD X.K cl b) := by
        have := blD (cl := cl) b gd.calm
        rw [hv] at this
        exact this
      exact pe_callBfun hc (kindOf_gl gd.sc h2) (gd.pf.mt _ _ h3) (sndL hf gd h4) m2 s1 s2
    | none =>
      rw [hm] at h3
      simp only [decide_eq_true_eq] at h3
      have hb := bl_boot b hm
      have hc := blD (cl := cl) b gd.calm
      cases hv : blV b with
      | bi id =>
        rw [hv] at hb hc
        exact pe_callB hc (kindOf_gl gd.sc h2) (gd.pf.bl _ h3) hb (sndL hf gd h4) m1 m2 s1 s2
      | ty T =>
        rw [hv] at hb hc
        exact pe_callTy hc (kindOf_gl gd.sc h2) (gd.pf.bl _ h3) hb (sndL hf gd h4) m1 m2 s1 s2
  · -- a method
    rename_i o m ap a r cp m' x xs
    simp only [Bool.and_eq_true, decide_eq_true_eq, Bool.not_eq_true'] at h
    obtain ⟨⟨⟨⟨⟨rfl, h1⟩, h2⟩, h3⟩, h4⟩, h5⟩ := h
    have hst := okL_star h5
    obtain ⟨f1, f2, f3⟩ := mt_facts m'
    have hfew : ((backTo cp (starEach (a :: r) X.env)).all (fun x => !x.1) && (backToKw cp (keywordEach [] X.env)).all (fun x => x.1.isSome)
      && decide ((a :: r).length + ([] : List Keyword).length + (if ([] : List Keyword).isEmpty then 0 else 1) < 30)) = true := by
      rw [back_all hst]
      have : (backToKw cp (keywordEach [] X.env)).all (fun x => x.1.isSome) = true := rfl
      rw [this]
      simpa using h2
    refine trip_plain rfl (pe_imp (pe_bm f1 f2 f3 (mtD (cl := cl) m') (hf S W X gd o x h4).1 (sndL hf gd h5) (notCall_base h3) hfew h1 (star_cons (hst a List.mem_cons_self)) (back_any fun e hm => hst e (List.mem_cons_of_mem _ hm))) fun σ H Q q => ?_)
    obtain ⟨θ, env, G, SS, e, g⟩ := q
    have g : Go X.K cl _ θ H ((evE ρ γ x env G).bind fun x G1 => if mtOk m' x G1 = true then (evEs ρ γ xs env G1).bind fun xs G2 => mthF m' x xs G2 else .bad) _ := g
    refine ev_bind SS e (fun _ _ _ z => z) g fun d G1 θ1 H1 v f1 S1 r1 g1 => ?_
    split at g1
    · rename_i hok
      refine ⟨mtOk_ty S1 r1 hok, θ1, env, G1, S1, e.mono SS f1, Go.imp g1.bind fun ds G2 θ2 H2 f2 S2 g2 vs rs => ?_⟩
      exact ⟨_, θ2, G2, d, ds, S2, r1.mono S1 f2, rs, g2⟩
    · exact g1.elim
  · -- a comprehension
    rename_i elt tg it ifs ia scope ps x t i a own
    unfold okLc at h
    simp only [Bool.and_eq_true, decide_eq_true_eq, Bool.not_eq_true'] at h
    obtain ⟨⟨⟨⟨⟨⟨⟨⟨h1, h2⟩, h3⟩, h4⟩, h5⟩, h6⟩, h7⟩, h8⟩, h9⟩ := h
    subst h1
    obtain ⟨p1, p2, p3, p4, p5, p6, p7⟩ := lc_parts (ps := ps) hf gd h2 h3 h4 h5 h6 h7 h8 h9
    exact trip_plain rfl (pe_imp (pe_lc gd.calm (by rw [gd.N]; exact gd.nd) p1 p2 p3 p4 p5 p6) p7)
  · cases h
theorem snd_zero : SndE cl p ρ γ lv (okE p 0) := by
  intro S W X gd e ie h
  simp [okE] at h
theorem snd_all : ∀ n, SndE cl p ρ γ lv (okE p n)
  | 0 => snd_zero
  | n + 1 => snd_succ n (snd_all n)
end
end Pv
end SPvF
section SPvG
set_option Elab.async false
set_option linter.all false
set_option maxRecDepth 100000
set_option maxHeartbeats 4000000
/-! Statements. -/
namespace Pv
open PySem L2

def compB : Expr → Bool
  | .ListComp _ _ _ _ => true
  | .SetComp _ _ _ _ => true
  | .DictComp _ _ _ _ _ => true
  | _ => false
/-- a tuple or a list as a target -/
def seqB : Expr → Bool
  | .Tuple _ _ _ => true
  | .List _ _ => true
  | _ => false
def tupB : Expr → Bool
  | .Tuple _ _ _ => true
  | _ => false
def opAug : Operator → Op → Bool
  | .Add, .add => true
  | .Sub, .sub => true
  | _, _ => false
/-- name = [..]: the name is stored ahead of the block's end -/
def swB (S : SI) (y : Str) (py ps : Pos) (scope : Scope) : Bool :=
  (match S.sc.names.lookup y with | some .local => true | _ => false) && (py.line == ps.line) && !(scope.names.any fun (n, k) => n == y && (k == .local || k == .cell))
def okS (p : PI0) (d : Nat) : Nat → SI → Stmt → IS → Bool
  | 0, _, _, _ => false
  | n + 1, S, st, is => match st, is with
    | _, .never => true
    | .Assign [.Name y py] (.ListComp elt [⟨tg, it, ifs, ia⟩] scope ps) _, .asg (.nm i) (.lc x t i2 a own) => decide (S.N[i]? = some y) && decide (i ∈ S.as) && swB S y py ps scope && okLc p (okE p d) S elt tg it ifs ia scope x t i2 a own
    | .Assign [tg] e _, .asg t x => !compB e && !(seqB tg && tupB e) && !starB tg && okE p d S e x && okTg S (okE p d S) 4 tg t
    | .AugAssign (.Name y _) o e _, .aug i o' x => decide (S.N[i]? = some y) && locB S y && decide (i ∈ S.as) && opAug o o' && okE p d S e x
    | .Expr e _, .expr x => !compB e && okE p d S e x
    | .Return (some e) _, .ret x => okE p d S e x
    | .Return none _, .retN => true
    | .If c a b _, .ifs z x y => testB c && okE p d S c z && go n S a x && go n S b y
    | .For tg it b [] _, .fors t i x => !setB it && okIt p S (okE p d S) it i && okTg S (okE p d S) 4 tg t && go n S b x
    | .While c b [] _, .whil z x => testB c && okE p d S c z && go n S b x
    | .Break _, .brk => true
    | .Continue _, .cnt => true
    | .Pass _, .pass => true
    | _, _ => false
where go (n : Nat) (S : SI) : List Stmt → ISs → Bool
  | [], .nil => true
  | s :: r, .cons x xs => okS p d n S s x && go n S r xs
  | _, _ => false

theorem ps_imp {X : Cx} {e : Stmt} {t t' : TS} (h : PS X e t) (i : ∀ D σ H, t' D σ H → t D σ H) : PS X e t' := ⟨fun pins s σ H D I q => h.run pins s σ H D I (i D σ H q)⟩
theorem pss_imp {X : Cx} {e : List Stmt} {t t' : TS} (h : PSs X e t) (i : ∀ D σ H, t' D σ H → t D σ H) : PSs X e t' := ⟨fun pins s σ H D I q => h.run pins s σ H D I (i D σ H q)⟩
theorem swaps_none {env : PySem.Env} {e : Expr} {tg : Option Expr} {l : Nat} (h : compB e = false) : swapsWith e tg l env = pure false := by
  cases e <;> first | rfl | cases h
theorem swaps_sole {env : PySem.Env} {tg e : Expr} {l : Nat} (h : compB e = false) : swapsWithSole [tg] e l env = pure false := swaps_none h
theorem swapped_none {env : PySem.Env} {tg e : Expr} (h : (seqB tg && tupB e) = false) : swappedStores [tg] e env = pure none := by
  cases tg <;> first
    | rfl
    | (cases e <;> first | rfl | (simp [seqB, tupB] at h; done))
section
variable {K : PySem.W.Frag} {cl : Nat → Addr} {W : WX} {as : List Nat} {σ σ' : St} {θ : List Addr} {H : Hp} {G : List PO} {D : Ends} {o : Out}
theorem oEnd_agr (a : Agr as σ σ') (h : oEnd K as σ D o G θ H) : oEnd K as σ' D o G θ H := by
  cases o with
  | nx e => exact fun σ2 e2 a2 => h σ2 e2 (a.trans a2)
  | rt d => exact h
  | bk e => exact fun σ2 e2 a2 => h σ2 e2 (a.trans a2)
  | ct e => exact fun σ2 e2 a2 => h σ2 e2 (a.trans a2)
theorem go_agr {r : R Out} (a : Agr as σ σ') (g : Go K cl (WAt W as σ) θ H r (oEnd K as σ D)) : Go K cl (WAt W as σ') θ H r (oEnd K as σ' D) :=
  Go.imp (Go.wish g fun _ _ _ z => wAt_agr a z) fun _ _ _ _ _ _ h => oEnd_agr a h
end
section
variable {cl : Nat → Addr} {p : PI0} {ρ : Nat → Den} {γ : Nat → D} {lv : Nat} {S : SI} {W : WX} {X : Cx}
/-- the loop's own walk -/
theorem for_core {K : PySem.W.Frag} {src : Src} {tgt : D → Env → List PO → R Env} {body : Env → List PO → R Out} {J : It} {as : List Nat} {θ1 : List Addr} {G1 : List PO} {H1 : Hp} {env : Env} {σ : St} {D : Ends}
    (S1 : SR K θ1 G1 H1) (e1 : ER K H1 θ1 env σ) (jok : JOk K src θ1 H1 J)
    (g : Go K cl (WAt W as σ) θ1 H1 (forL src (fun x e G => (tgt x e G).bind fun e1 G1 => body e1 G1) src.2 env G1) (oEnd K as σ D)) :
    ∃ Wf : Nat → Nat → St → Hp → Prop, (∃ m, Wf 0 m σ H1) ∧ ∀ i m σ H, Wf i m σ H →
      (J.stop i H ∧ D.nx σ H) ∨ (J.go i H ∧ ∃ N : St → Hp → Prop, (∀ σ' H', N σ' H' → ∃ m', m' < m ∧ Wf (i + 1) m' σ' H') ∧ ∀ x H', J.yld i H x H' →
        tG K cl W as tgt x σ H' fun σ2 H2 => tS K cl W as body { D with nx := N, ct := N, bk := D.nx } σ2 H2) := by
  obtain ⟨turn, ht⟩ : ∃ t, t = (fun (x : Pv.D) (e : Env) (G : List PO) => (tgt x e G).bind fun e1 G1 => body e1 G1) := ⟨_, rfl⟩
  rw [← ht] at g
  obtain ⟨St', hSt⟩ : ∃ St' : Nat → St → Hp → Prop, St' = fun i σ' H => i ≤ src.2.length ∧ ∃ θ G env', SR K θ G H ∧ Fut θ1 H1 θ H ∧ ER K H θ env' σ' ∧ Agr as σ σ' ∧ Go K cl (WAt W as σ) θ H (forL src turn (src.2.drop i) env' G) (oEnd K as σ D) := ⟨_, rfl⟩
  refine ⟨fun i m σ' H => m = src.2.length - i ∧ St' i σ' H, ⟨src.2.length, by simp, ?_⟩, ?_⟩
  · rw [hSt]
    exact ⟨Nat.zero_le _, θ1, G1, env, S1, Fut.refl _ _, e1, Agr.refl _ _, by rw [List.drop_zero]; exact g⟩
  · rintro i m σ' H ⟨rfl, st⟩
    rw [hSt] at st
    obtain ⟨hi, θ, G, env', S', f, e', a', g⟩ := st
    by_cases hlt : i < src.2.length
    · right
      obtain ⟨x0, hx0⟩ : ∃ x0, src.2[i]? = some x0 := ⟨_, List.getElem?_eq_getElem hlt⟩
      have hdrop : src.2.drop i = x0 :: src.2.drop (i + 1) := by
        rw [List.drop_eq_getElem_cons hlt]
        rw [List.getElem?_eq_getElem hlt] at hx0
        cases hx0
        rfl
      rw [hdrop] at g
      unfold forL at g
      split at g
      · rename_i hok
        obtain ⟨j1, _⟩ := jok θ G H f S' hok i
        obtain ⟨jgo, jy⟩ := j1 x0 hx0
        refine ⟨jgo, fun σ2 H2 => St' (i + 1) σ2 H2, fun σ2 H2 n => ⟨src.2.length - (i + 1), by omega, rfl, n⟩, fun x H' y => ?_⟩
        obtain ⟨fy, Sy, rx⟩ := jy x H' y
        have g2 := Go.later fy g
        rw [ht, R.bind_assoc] at g2
        refine ⟨θ, env', G, x0, Sy, e'.mono S' fy, rx, Go.imp (Go.wish g2.bind fun _ _ _ z => wAt_agr a' z) fun env2 G2 θ2 H2 f2 S2 g3 σ2 e2 a2 => ?_⟩
        refine ⟨θ2, env2, G2, S2, e2, Go.imp (Go.wish g3.bind fun _ _ _ z => wAt_agr (a'.trans a2) z) fun o G3 θ3 H3 f3 S3 g4 => ?_⟩
        rw [← ht] at g4
        have ff : Fut θ1 H1 θ3 H3 := ((f.trans fy).trans f2).trans f3
        cases o with
        | nx e =>
          intro σ3 e3 a3
          show St' (i + 1) σ3 H3
          rw [hSt]
          exact ⟨hlt, θ3, G3, e, S3, ff, e3, (a'.trans a2).trans a3, g4⟩
        | ct e =>
          intro σ3 e3 a3
          show St' (i + 1) σ3 H3
          rw [hSt]
          exact ⟨hlt, θ3, G3, e, S3, ff, e3, (a'.trans a2).trans a3, g4⟩
        | bk e =>
          intro σ3 e3 a3
          exact g4.ok S3 σ3 e3 ((a'.trans a2).trans a3)
        | rt d => exact g4.ok S3
      · exact g.elim
    · left
      have e : i = src.2.length := by omega
      subst e
      rw [List.drop_length] at g
      unfold forL at g
      split at g
      · rename_i hok
        obtain ⟨_, j2⟩ := jok θ G H f S' hok src.2.length
        exact ⟨j2 (Nat.le_refl _), g.ok S' σ' e' a'⟩
      · exact g.elim
theorem while_core {K : PySem.W.Frag} {test : Env → List PO → R Bool} {body : Env → List PO → R Out} {as : List Nat} {θ1 : List Addr} {G1 : List PO} {H1 : Hp} {env : Env} {σ : St} {D : Ends} {n : Nat}
    (S1 : SR K θ1 G1 H1) (e1 : ER K H1 θ1 env σ) (g : Go K cl (WAt W as σ) θ1 H1 (whileL test body n env G1) (oEnd K as σ D)) : tWhile (tT K cl W test) (tS K cl W as body) D σ H1 := by
  refine ⟨fun m σ' H => ∃ θ G env', SR K θ G H ∧ ER K H θ env' σ' ∧ Agr as σ σ' ∧ Go K cl (WAt W as σ) θ H (whileL test body m env' G) (oEnd K as σ D), ⟨n, θ1, G1, env, S1, e1, Agr.refl _ _, g⟩, ?_⟩
  rintro m σ' H ⟨θ, G, env', S', e', a', g⟩
  cases m with
  | zero => exact g.elim
  | succ m =>
    unfold whileL at g
    refine ⟨θ, env', G, S', e', Go.imp (Go.wish g.bind fun _ _ _ z => wAt_self (wAt_agr a' z)) fun b G2 θ2 H2 f2 S2 g2 => ?_⟩
    cases b with
    | true =>
      rw [if_pos rfl] at g2 ⊢
      refine ⟨fun σ2 H2 => ∃ θ G env', SR K θ G H2 ∧ ER K H2 θ env' σ2 ∧ Agr as σ σ2 ∧ Go K cl (WAt W as σ) θ H2 (whileL test body m env' G) (oEnd K as σ D), fun σ2 H2 h => ⟨m, Nat.lt_succ_self m, h⟩, ?_⟩
      refine ⟨θ2, env', G2, S2, e'.mono S' f2, Go.imp (Go.wish g2.bind fun _ _ _ z => wAt_agr a' z) fun o G3 θ3 H3 f3 S3 g4 => ?_⟩
      cases o with
      | nx e => exact fun σ3 e3 a3 => ⟨θ3, G3, e, S3, e3, a'.trans a3, g4⟩
      | ct e => exact fun σ3 e3 a3 => ⟨θ3, G3, e, S3, e3, a'.trans a3, g4⟩
      | bk e => exact fun σ3 e3 a3 => g4.ok S3 σ3 e3 (a'.trans a3)
      | rt d => exact g4.ok S3
    | false =>
      rw [if_neg Bool.false_ne_true] at g2 ⊢
      exact g2.ok S2 σ' (e'.mono S' f2) a'

theorem sndS_cons {n : Nat} {d : Nat} (one : ∀ (st : Stmt) (is : IS), okS p d n S st is = true → PS X st (tS X.K cl W S.as (evS ρ γ is))) :
    ∀ (sts : List Stmt) (iss : ISs), okS.go p d n S sts iss = true → PSs X sts (tS X.K cl W S.as (evSs ρ γ iss))
  | [], .nil, _ => pss_imp pss_nil fun D σ H q => by
    obtain ⟨θ, env, G, SS, e, g⟩ := q
    exact g.ok SS σ e (Agr.refl _ _)
  | [], .cons _ _, h => by simp [okS.go] at h
  | _ :: _, .nil, h => by simp [okS.go] at h
  | s :: r, .cons x xs, h => by
    simp only [okS.go, Bool.and_eq_true] at h
    refine pss_imp (pss_cons (one s x h.1) (sndS_cons one r xs h.2)) fun D σ H q => ?_
    obtain ⟨θ, env, G, SS, e, g⟩ := q
    have g : Go X.K cl _ θ H ((evS ρ γ x env G).bind fun o G1 => match o with | .nx e => evSs ρ γ xs e G1 | o => .ok o G1) _ := g
    refine ⟨θ, env, G, SS, e, Go.imp g.bind fun o G1 θ1 H1 f1 S1 g1 => ?_⟩
    cases o with
    | nx e1 => exact fun σ1 er1 a1 => ⟨θ1, e1, G1, S1, er1, go_agr a1 g1⟩
    | rt d => exact g1.ok S1
    | bk e1 => exact g1.ok S1
    | ct e1 => exact g1.ok S1
theorem sndS (d : Nat) (gd : Gd cl p ρ γ lv S W X) (hb : S.blk = false) (own : PassesOwn (model X.prog X.w) X.A X.env X.xe) : ∀ (n : Nat) (st : Stmt) (is : IS), okS p d n S st is = true → PS X st (tS X.K cl W S.as (evS ρ γ is))
  | 0, st, is, h => by simp [okS] at h
  | n + 1, st, is, h => by
    have hf : SndE cl p ρ γ lv (okE p d) := snd_all d
    have seq : ∀ (sts : List Stmt) (iss : ISs), okS.go p d n S sts iss = true → PSs X sts (tS X.K cl W S.as (evSs ρ γ iss)) := sndS_cons (sndS d gd hb own n)
    have nd : X.N.Nodup := by rw [gd.N]; exact gd.nd
    unfold okS at h
    split at h
    · exact ps_imp ps_never fun D σ H q => by
        obtain ⟨θ, env, G, SS, e, g⟩ := q
        exact g.elim
    · -- name = [..]
      rename_i y py elt tg it ifs ia scope ps q1 i x t i2 a own'
      simp only [Bool.and_eq_true, decide_eq_true_eq] at h
      obtain ⟨⟨⟨h1, h2⟩, h3⟩, h4⟩ := h
      unfold swB at h3
      simp only [Bool.and_eq_true, Bool.not_eq_true'] at h3
      obtain ⟨⟨k1, k2⟩, k3⟩ := h3
      have kl : X.env.scope.names.lookup y = some .local := by
        rw [gd.sc]
        split at k1
        · assumption
        · cases k1
      have kf : X.env.scope.kind = .function := by
        rw [gd.sc]
        exact gd.kind hb
      unfold okLc at h4
      simp only [Bool.and_eq_true, decide_eq_true_eq, Bool.not_eq_true'] at h4
      obtain ⟨⟨⟨⟨⟨⟨⟨⟨g1, g2⟩, g3⟩, g4⟩, g5⟩, g6⟩, g7⟩, g8⟩, g9⟩ := h4
      subst g1
      obtain ⟨p1, p2, p3, p4, p5, p6, p7⟩ := lc_parts (ps := ps) hf gd g2 g3 g4 g5 g6 g7 g8 g9
      refine ps_imp (ps_setLc (i := i) gd.calm nd (by rw [gd.N]; exact h1) kl (sw_true kf kl k2 k3) p1 p2 p3 p4 p5 p6) fun D σ H q => ?_
      obtain ⟨θ, env, G, SS, e, g⟩ := q
      have g : Go X.K cl _ θ H ((evE ρ γ (.lc x t i2 a own') env G).bind fun x G1 => (Pv.R.ok (env.set i (some x)) G1).bind fun env1 G2 => R.ok (Out.nx env1) G2) _ := g
      refine p7 σ H _ (ev_bind SS e (fun _ _ _ z => wAt_self z) g fun d G1 θ1 H1 v f1 S1 r1 g1 => ?_)
      exact Go.ok (a := Out.nx (env.set i (some d))) g1 S1 _ ((e.mono SS f1).set r1) (Agr.set h2)
    · -- target = value
      rename_i tg e0 q1 t x _
      simp only [Bool.and_eq_true, Bool.not_eq_true'] at h
      obtain ⟨⟨⟨⟨h1, h2⟩, h3⟩, h4⟩, h5⟩ := h
      have hst : ∀ e ∈ [tg], starB e = false := fun e hm => by
        have : e = tg := by simpa using hm
        subst this
        exact h3
      refine ps_imp (ps_asg (hf S W X gd e0 x h4).1 (sndT hf gd 4 tg t h5) (swaps_sole h1) (swapped_none h2) ((assign_len hst).2.2 _ _ rfl)) fun D σ H q => ?_
      obtain ⟨θ, env, G, SS, e, g⟩ := q
      have g : Go X.K cl _ θ H ((evE ρ γ x env G).bind fun x G1 => (asT ρ γ t x env G1).bind fun env1 G2 => R.ok (Out.nx env1) G2) _ := g
      refine ev_bind SS e (fun _ _ _ z => wAt_self z) g fun d G1 θ1 H1 v f1 S1 r1 g1 => ?_
      refine ⟨θ1, env, G1, d, S1, e.mono SS f1, r1, Go.imp g1.bind fun env1 G2 θ2 H2 f2 S2 g2 σ' e' a' => ?_⟩
      exact Go.ok (a := Out.nx env1) g2 S2 σ' e' a'
    · -- name += value
      rename_i y yp o e0 q1 i o' x
      simp only [Bool.and_eq_true, decide_eq_true_eq] at h
      obtain ⟨⟨⟨⟨h1, h2⟩, h3⟩, h4⟩, h5⟩ := h
      obtain ⟨l1, l2⟩ := loc_of gd h2
      have he := (hf S W X gd e0 x h5).1
      have rd : ∀ (fo : Int → Int → Int), (∀ a b, augF o' a b = some (fo a b)) →
          ∀ D σ H, tS X.K cl W S.as (evS ρ γ (.aug i o' x)) D σ H → tAug i (tE X.K cl W (evE ρ γ x)) (ipI fo) D σ H := by
        intro fo hfo D σ H q
        obtain ⟨θ, env, G, SS, e, g⟩ := q
        unfold evS at g
        cases hx : env[i]? with
        | none => rw [hx] at g; exact g.elim
        | some o1 =>
          rw [hx] at g
          cases o1 with
          | none => exact g.elim
          | some x' =>
            obtain ⟨v, hv, rv⟩ := e.2 i x' hx
            refine ⟨v, hv, ev_bind SS e (fun _ _ _ z => wAt_self z) g fun d G1 θ1 H1 v1 f1 S1 r1 g1 => ?_⟩
            cases x' with
            | int a =>
              cases d with
              | int b =>
                cases rv
                cases r1
                simp only [hfo] at g1
                exact ⟨a, b, rfl, rfl, Go.ok g1 S1 _ ((e.mono SS f1).set (.int _)) (Agr.set h3)⟩
              | _ => exact g1.elim
            | _ => exact g1.elim
      cases o <;> cases o' <;> first
        | (simp [opAug] at h4; done)
        | exact ps_imp (ps_aug (i := i) nd (by rw [gd.N]; exact h1) l1 he ip_add l2) (rd _ fun _ _ => rfl)
        | exact ps_imp (ps_aug (i := i) nd (by rw [gd.N]; exact h1) l1 he ip_sub l2) (rd _ fun _ _ => rfl)
    · -- an expression
      rename_i e0 q1 x
      simp only [Bool.and_eq_true, Bool.not_eq_true'] at h
      refine ps_imp (ps_expr (hf S W X gd e0 x h.2).1 (swaps_none h.1)) fun D σ H q => ?_
      obtain ⟨θ, env, G, SS, e, g⟩ := q
      have g : Go X.K cl _ θ H ((evE ρ γ x env G).bind fun _ G1 => R.ok (Out.nx env) G1) _ := g
      exact ev_bind SS e (fun _ _ _ z => wAt_self z) g fun d G1 θ1 H1 v f1 S1 r1 g1 => Go.ok (a := Out.nx env) g1 S1 σ (e.mono SS f1) (Agr.refl _ _)
    · -- return value
      rename_i e0 q1 x
      refine ps_imp (ps_ret (hf S W X gd e0 x h).1) fun D σ H q => ?_
      obtain ⟨θ, env, G, SS, e, g⟩ := q
      have g : Go X.K cl _ θ H ((evE ρ γ x env G).bind fun x G1 => R.ok (Out.rt x) G1) _ := g
      exact ev_bind SS e (fun _ _ _ z => wAt_self z) g fun d G1 θ1 H1 v f1 S1 r1 g1 => Go.ok (a := Out.rt d) g1 S1 v r1
    · refine ps_imp ps_retN fun D σ H q => ?_
      obtain ⟨θ, env, G, SS, e, g⟩ := q
      exact Go.ok (a := Out.rt .non) g SS _ .non
    · -- if
      rename_i c a b q1 z x y
      simp only [Bool.and_eq_true] at h
      refine ps_imp (ps_if ((hf S W X gd c z h.1.1.2).2.1 h.1.1.1) (seq a x h.1.2) (seq b y h.2)) fun D σ H q => ?_
      obtain ⟨θ, env, G, SS, e, g⟩ := q
      have g : Go X.K cl _ θ H ((boolR (evE ρ γ z env G)).bind fun k G1 => if k = true then evSs ρ γ x env G1 else evSs ρ γ y env G1) _ := g
      refine ev_bindB SS e (fun _ _ _ z => wAt_self z) g fun k G1 θ1 H1 f1 S1 g1 => ?_
      cases k with
      | true =>
        show if true = true then _ else _
        rw [if_pos rfl]
        exact ⟨θ1, env, G1, S1, e.mono SS f1, g1⟩
      | false =>
        show if false = true then _ else _
        rw [if_neg Bool.false_ne_true]
        exact ⟨θ1, env, G1, S1, e.mono SS f1, g1⟩
    · -- for
      rename_i tg it b q1 t i x
      simp only [Bool.and_eq_true, Bool.not_eq_true'] at h
      obtain ⟨⟨⟨h1, h2⟩, h3⟩, h4⟩ := h
      have hfold : ∀ v, foldedSetIterable it X.env v = pure v := fun v => by
        cases it <;> first | rfl | cases h1
      refine ps_imp (ps_for own gd.calm (sndI hf gd (tg := tg) h2) (sndT hf gd 4 tg t h3) (seq b x h4) hfold) fun D σ H q => ?_
      obtain ⟨θ, env, G, SS, e, g⟩ := q
      have g : Go X.K cl _ θ H ((evI ρ γ i env G).bind fun src G1 => forL src (fun x' e G => (asT ρ γ t x' e G).bind fun e1 G1 => evSs ρ γ x e1 G1) src.2 env G1) _ := g
      exact ⟨θ, env, G, SS, e, Go.imp (Go.wish g.bind fun _ _ _ z => wAt_self z) fun src G1 θ1 H1 f1 S1 g1 J jok => for_core S1 (e.mono SS f1) jok g1⟩
    · -- while
      rename_i c b q1 z x
      simp only [Bool.and_eq_true] at h
      refine ps_imp (ps_while own ((hf S W X gd c z h.1.2).2.1 h.1.1) (seq b x h.2)) fun D σ H q => ?_
      obtain ⟨θ, env, G, SS, e, g⟩ := q
      exact while_core SS e g
    · refine ps_imp ps_break fun D σ H q => ?_
      obtain ⟨θ, env, G, SS, e, g⟩ := q
      exact Go.ok (a := Out.bk env) g SS σ e (Agr.refl _ _)
    · refine ps_imp ps_continue fun D σ H q => ?_
      obtain ⟨θ, env, G, SS, e, g⟩ := q
      exact Go.ok (a := Out.ct env) g SS σ e (Agr.refl _ _)
    · refine ps_imp ps_pass fun D σ H q => ?_
      obtain ⟨θ, env, G, SS, e, g⟩ := q
      exact Go.ok (a := Out.nx env) g SS σ e (Agr.refl _ _)
    · cases h
end
end Pv
end SPvG
section SPvH
set_option Elab.async false
set_option linter.all false
set_option maxRecDepth 100000
set_option maxHeartbeats 4000000
/-! Defs, the program, the law's end. -/
namespace Pv
open PySem L2

/-- a def of the text: its name, its parameters, its names, its statement, its pure form -/
structure DefI where
  x : Str
  ps : List Str
  N : List Str
  st : Stmt
  d : IDef
def DefI.ok (p : PI0) (f : DefI) : Bool :=
  decide (f.d.np = f.ps.length) && decide (f.d.ns = f.N.length) && okS.go p 40 40 { N := f.N, sc := defScope f.st, blk := false, as := List.range f.N.length } (defBody f.st) f.d.body
def scopeB (N ps : List Str) (sc : Scope) : Bool :=
  decide (sc.kind = .function) && !sc.isCoroutine && !sc.isGenerator && decide N.Nodup && decide (N.take ps.length = ps) && ps.all (fun x => match sc.names.lookup x with | some .local => true | some .cell => true | _ => false) && sc.names.all fun y => decide (y.2 ≠ .free)
theorem scope_of {N ps : List Str} {sc : Scope} (h : scopeB N ps sc = true) : FnScope N ps sc := by
  unfold scopeB at h
  simp only [Bool.and_eq_true, decide_eq_true_eq, Bool.not_eq_true', List.all_eq_true] at h
  obtain ⟨⟨⟨⟨⟨⟨h1, h2⟩, h3⟩, h4⟩, h5⟩, h6⟩, h7⟩ := h
  refine ⟨h1, h2, h3, h4, h5, fun x hx => ?_, h7⟩
  have := h6 x hx
  split at this
  · rename_i e; exact .inl e
  · rename_i e; exact .inr e
  · cases this

section
variable {P : Program} {w : World} {K : PySem.W.Frag} {mg : Str → Option Value} {base : Heap} {cl : Nat → Addr} {p : PI0} {ρ : Nat → Den} {γ : Nat → D} {lv : Nat}
theorem env_start {H : Hp} {θ : List Addr} {N : List Str} {ds : List D} {vs : List V} {n : Nat} (r : RVs K H θ ds vs) (hn : n = ds.length) : ER K H θ (ds.map some ++ List.replicate (N.length - n) none) (L2.start N vs) := by
  have hl := Paired.length r
  subst hn
  unfold L2.start
  refine ⟨by simp [hl], fun i d h => ?_⟩
  by_cases hi : i < ds.length
  · rw [List.getElem?_append_left (by simpa using hi)] at h
    rw [List.getElem?_map] at h
    cases e : ds[i]? with
    | none => rw [e] at h; cases h
    | some d' =>
      rw [e] at h
      cases h
      obtain ⟨v, hv, rv⟩ := rvs_get r e
      refine ⟨v, ?_, rv⟩
      rw [List.getElem?_append_left (by simpa [← hl] using hi), List.getElem?_map, hv]
      rfl
  · rw [List.getElem?_append_right (by simpa using hi), List.getElem?_replicate] at h
    split at h <;> cases h
theorem fun_ok (pf : PF P w K mg base cl p ρ γ lv) {f : DefI} {qual : Str} {fa : Addr} {fd : FuncData} (hc : f.ok p = true) (hs : scopeB f.N f.ps (defScope f.st) = true) (F : Fun K f.x qual f.st fa fd) :
    FnOk P w K mg base (L2.CX P w) (lv + 1) fa fd f.ps (spOf K cl f.ps.length (callD ρ γ f.d)) := by
  unfold DefI.ok at hc
  simp only [Bool.and_eq_true, decide_eq_true_eq] at hc
  obtain ⟨⟨h1, h2⟩, h3⟩ := hc
  have sc := scope_of hs
  refine F.okX sc (fun vs H Q E h => h.1) fun cdv A outer s H vs Q E hr h => ?_
  obtain ⟨hl, θ, G, ds, S, r, g⟩ := h
  have gd : Gd cl p ρ γ lv { N := f.N, sc := defScope f.st, blk := false, as := List.range f.N.length } (fun c d _ H => E c d H) (cxOf (L2.CX P w) P w K mg base f.N qual (defScope f.st) fa cdv A outer s H E) :=
    ⟨pf, rfl, sc.nd, rfl, rfl, fun _ _ => rfl, fun _ => sc.kind, hr, takes_of rfl rfl rfl rfl⟩
  refine ⟨_, sndS_cons (sndS 40 gd rfl (passes_of rfl) 40) _ _ h3, ?_⟩
  unfold callD at g
  split at g
  · rename_i hd
    rw [h2] at g
    refine ⟨θ, _, G, S, env_start r hd.symm, Go.imp (Go.wish g.bind fun c d H' z σ' _ => z) fun o G1 θ1 H1 f1 S1 g1 => ?_⟩
    cases o with
    | nx e => exact fun σ' e' a' => g1.ok S1 _ .non
    | rt d => exact g1.ok S1
    | bk e => exact g1.elim
    | ct e => exact g1.elim
  · exact g.elim
theorem fn_zero {np : Nat} {fa : Addr} {fd : FuncData} {ps : List Str} (h : ps.length = np) : FnOk P w K mg base (L2.CX P w) 0 fa fd ps (spOf K cl np fun _ _ => .bad) :=
  ⟨fun vs H Q E q => by rw [h]; exact q.1, fun A outer s H args us vs Q E hr e0 hb hv q => by
    obtain ⟨_, θ, G, ds, S, r, g⟩ := q
    exact g.elim⟩
/-- what the top has left of a def -/
structure DefAt (K : PySem.W.Frag) (mg : Str → Option Value) (f : DefI) (fa : Addr) (fd : FuncData) : Prop where
  fn : ∃ qual, Fun K f.x qual f.st fa fd
  at_ : mg f.x = some (.ref fa)
  binds : Binds K fd f.ps []
theorem prog_ok (defs : List DefI) (hp : p.fns = defs.map fun f => (f.x, f.ps.length)) (hc : (defs.all fun f => f.ok p && scopeB f.N f.ps (defScope f.st)) = true)
    (hfn : ∀ f ∈ defs, ∃ fa fd, DefAt K mg f fa fd)
    (gl : ∀ (g : Nat) (x : Str), p.gls[g]? = some x → ∃ (u : Value) (v : V), mg x = some u ∧ RelV v u ∧ ∀ H θ, RV K H θ (γ g) v) (bl : ∀ x ∈ p.bls, mg x = none) (mt : ∀ x id, (x, id) ∈ p.mts → mg x = some (.builtin id)) :
    ∀ n, PF P w K mg base cl p (tab (fun i => (defs[i]?).map (·.d)) γ n) γ n := by
  have look : ∀ {i : Nat} {x : Str} {np : Nat}, p.fns[i]? = some (x, np) → ∃ f, defs[i]? = some f ∧ f.x = x ∧ f.ps.length = np := by
    intro i x np h
    rw [hp, List.getElem?_map] at h
    cases e : defs[i]? with
    | none => rw [e] at h; cases h
    | some f => rw [e] at h; cases h; exact ⟨f, rfl, rfl, rfl⟩
  intro n
  induction n with
  | zero =>
    refine ⟨fun i x np h => ?_, gl, bl, mt⟩
    obtain ⟨f, h1, rfl, rfl⟩ := look h
    obtain ⟨fa, fd, ⟨qual, F⟩, a, b⟩ := hfn f (List.mem_of_getElem? h1)
    exact ⟨fa, fd, f.ps, a, F.kp, b, fn_zero rfl, fun _ _ _ => rfl⟩
  | succ n ih =>
    refine ⟨fun i x np h => ?_, gl, bl, mt⟩
    obtain ⟨f, h1, rfl, rfl⟩ := look h
    obtain ⟨fa, fd, ⟨qual, F⟩, a, b⟩ := hfn f (List.mem_of_getElem? h1)
    have hcf := List.all_eq_true.mp hc f (List.mem_of_getElem? h1)
    simp only [Bool.and_eq_true] at hcf
    have e : tab (fun i => (defs[i]?).map (·.d)) γ (n + 1) i = callD (tab (fun i => (defs[i]?).map (·.d)) γ n) γ f.d := by
      unfold tab
      rw [h1]
      rfl
    refine ⟨fa, fd, f.ps, a, F.kp, b, ?_, fun ds G hl => ?_⟩
    · rw [e]
      exact fun_ok ih hcf.1 hcf.2 F
    · rw [e]
      have h2 := hcf.1
      unfold DefI.ok at h2
      simp only [Bool.and_eq_true, decide_eq_true_eq] at h2
      unfold callD
      rw [if_neg (by rw [h2.1.1]; exact hl)]
/-- the law's promise from its pure value -/
theorem law_sp {F : Den} {H : Hp} {a : Addr} {ns : List Int} (hO : Only H) (hS : SqL K H a (ns.map V.int)) (h : ∃ G', F [.rol (ns.map D.int)] [] = .ok (.bl true) G') : spOf K cl 1 F [.ref a] H (fun v _ => v = .bl true) fun _ _ _ => False := by
  obtain ⟨G', e⟩ := h
  have sq : SqR K H a (ns.map V.int) := by
    rcases hS with (h | ⟨o, h⟩) | h
    · rcases hO a with z | ⟨o, xs, z⟩
      · rw [h] at z; cases z
      · rw [h] at z; cases z
    · exact .inl ⟨o, h⟩
    · exact .inr fun _ => .inr h
  refine ⟨rfl, [], [], [.rol (ns.map D.int)], ⟨rfl, List.nodup_nil, fun n a o h => by cases h⟩, .cons (.rol sq (by simp) fun i d v h1 h2 => ?_) .nil, ?_⟩
  · rw [List.getElem?_map] at h1 h2
    cases e : ns[i]? with
    | none => rw [e] at h1; cases h1
    | some z => rw [e] at h1 h2; cases h1; cases h2; exact .int z
  · rw [e]
    exact fun θ' H' f S v r => r.bl_inv
end
theorem noCX {P : Program} {w : World} (H : Hp) (s : Shared) (e : Value) (s' : Shared) (h : L2.CX P w [] H s (fun _ _ _ => False) e s') : False := by
  obtain ⟨_, _, _, _, _, _, _, _, _, _, _, _, z⟩ := h
  exact z
end Pv
end SPvH
section SPvP
set_option Elab.async false
set_option linter.all false
set_option maxRecDepth 100000
/-! Tools for the pure side: the evaluator step by step. -/
namespace Pv
open PySem L2

section
variable (ρ : Nat → Den) (γ : Nat → D)
def kVar (o : Option (Option D)) (G : List PO) : R D := match o with | some (some d) => .ok d G | _ => .bad
theorem kVar_some (d : D) (G : List PO) : kVar (some (some d)) G = .ok d G := (rfl)
noncomputable def kOp2 (o : Op) (x y : D) (G : List PO) : R D := opF o x y G
noncomputable def kOp1 (o : Op) (b : IE) (env : Env) (x : D) (G : List PO) : R D := (evE ρ γ b env G).bind (kOp2 o x)
theorem kOp2_app (o : Op) (x y : D) (G : List PO) : kOp2 o x y G = opF o x y G := (rfl)
theorem kOp1_app (o : Op) (b : IE) (env : Env) (x : D) (G : List PO) : kOp1 ρ γ o b env x G = (evE ρ γ b env G).bind (kOp2 o x) := (rfl)
def kNeg (x : D) (G : List PO) : R D := match x with | .int i => .ok (.int (-i)) G | _ => .bad
theorem kNeg_int (i : Int) (G : List PO) : kNeg (.int i) G = .ok (.int (-i)) G := (rfl)
def kCmp2 (c : Cm) (x y : D) (G : List PO) : R D := okB (cmF c x y) G
noncomputable def kCmp1 (c : Cm) (b : IE) (env : Env) (x : D) (G : List PO) : R D := (evE ρ γ b env G).bind (kCmp2 c x)
theorem kCmp2_app (c : Cm) (x y : D) (G : List PO) : kCmp2 c x y G = okB (cmF c x y) G := (rfl)
theorem kCmp1_app (c : Cm) (b : IE) (env : Env) (x : D) (G : List PO) : kCmp1 ρ γ c b env x G = (evE ρ γ b env G).bind (kCmp2 c x) := (rfl)
noncomputable def kCh3 (e : Cm) (z : IE) (env : Env) (v : D) (b : Bool) (G : List PO) : R D := match b with
  | true => (evE ρ γ z env G).bind (kCmp2 e v)
  | false => .ok (.bl false) G
theorem kCh3_t (e : Cm) (z : IE) (env : Env) (v : D) (G : List PO) : kCh3 ρ γ e z env v true G = (evE ρ γ z env G).bind (kCmp2 e v) := (rfl)
theorem kCh3_f (e : Cm) (z : IE) (env : Env) (v : D) (G : List PO) : kCh3 ρ γ e z env v false G = .ok (.bl false) G := (rfl)
noncomputable def kCh2 (c e : Cm) (z : IE) (env : Env) (u v : D) (G : List PO) : R D := match cmF c u v with
  | some b => kCh3 ρ γ e z env v b G
  | none => .bad
noncomputable def kCh1 (c e : Cm) (y z : IE) (env : Env) (u : D) (G : List PO) : R D := (evE ρ γ y env G).bind (kCh2 ρ γ c e z env u)
theorem kCh2_app (c e : Cm) (z : IE) (env : Env) (u v : D) (G : List PO) (b : Bool) (h : cmF c u v = some b) : kCh2 ρ γ c e z env u v G = kCh3 ρ γ e z env v b G := by
  unfold kCh2
  rw [h]
theorem kCh1_app (c e : Cm) (y z : IE) (env : Env) (u : D) (G : List PO) : kCh1 ρ γ c e y z env u G = (evE ρ γ y env G).bind (kCh2 ρ γ c e z env u) := (rfl)
def isNon : D → Bool
  | .non => true
  | _ => false
def kIsN (x : D) (G : List PO) : R D := .ok (.bl (isNon x)) G
def kNotN (x : D) (G : List PO) : R D := .ok (.bl (!isNon x)) G
theorem kIsN_app (x : D) (G : List PO) : kIsN x G = .ok (.bl (isNon x)) G := (rfl)
theorem kNotN_app (x : D) (G : List PO) : kNotN x G = .ok (.bl (!isNon x)) G := (rfl)
def kBl (b : Bool) (G : List PO) : R D := .ok (.bl b) G
theorem kBl_app (b : Bool) (G : List PO) : kBl b G = .ok (.bl b) G := (rfl)
noncomputable def kAnd (y : IE) (env : Env) (c : Bool) (G : List PO) : R D := match c with
  | true => (boolR (evE ρ γ y env G)).bind kBl
  | false => .ok (.bl false) G
noncomputable def kOr (y : IE) (env : Env) (c : Bool) (G : List PO) : R D := match c with
  | false => (boolR (evE ρ γ y env G)).bind kBl
  | true => .ok (.bl true) G
theorem kAnd_t (y : IE) (env : Env) (G : List PO) : kAnd ρ γ y env true G = (boolR (evE ρ γ y env G)).bind kBl := (rfl)
theorem kAnd_f (y : IE) (env : Env) (G : List PO) : kAnd ρ γ y env false G = .ok (.bl false) G := (rfl)
theorem kOr_f (y : IE) (env : Env) (G : List PO) : kOr ρ γ y env false G = (boolR (evE ρ γ y env G)).bind kBl := (rfl)
theorem kOr_t (y : IE) (env : Env) (G : List PO) : kOr ρ γ y env true G = .ok (.bl true) G := (rfl)
def kNot (c : Bool) (G : List PO) : R D := .ok (.bl (!c)) G
theorem kNot_app (c : Bool) (G : List PO) : kNot c G = .ok (.bl (!c)) G := (rfl)
noncomputable def kIte (a b : IE) (env : Env) (c : Bool) (G : List PO) : R D := match c with
  | true => evE ρ γ a env G
  | false => evE ρ γ b env G
theorem kIte_t (a b : IE) (env : Env) (G : List PO) : kIte ρ γ a b env true G = evE ρ γ a env G := (rfl)
theorem kIte_f (a b : IE) (env : Env) (G : List PO) : kIte ρ γ a b env false G = evE ρ γ b env G := (rfl)
def kTup (xs : List D) (G : List PO) : R D := if xs.length ≤ sizeLine then .ok (.tup xs) G else .bad
def kLst (xs : List D) (G : List PO) : R D := if xs.length ≤ sizeLine then .ok (.obj G.length) (G ++ [.lst xs]) else .bad
theorem kTup_app (xs : List D) (G : List PO) (h : xs.length ≤ 1000) : kTup xs G = .ok (.tup xs) G := if_pos (Nat.le_trans h (by decide))
theorem kLst_app (xs : List D) (G : List PO) (h : xs.length ≤ 1000) : kLst xs G = .ok (.obj G.length) (G ++ [.lst xs]) := if_pos (Nat.le_trans h (by decide))
def kDct (kvs : List (Key × D)) (G : List PO) : R D := if kvs.length ≤ 15 then .ok (.obj G.length) (G ++ [.dk (kvs.foldl (fun d (kv : Key × D) => setK d kv.1 kv.2) [])]) else .bad
theorem kDct_app (kvs : List (Key × D)) (G : List PO) (h : kvs.length ≤ 15) : kDct kvs G = .ok (.obj G.length) (G ++ [.dk (kvs.foldl (fun d (kv : Key × D) => setK d kv.1 kv.2) [])]) := if_pos h
def kIx2 (x y : D) (G : List PO) : R D := ixF x y G
noncomputable def kIx1 (b : IE) (env : Env) (x : D) (G : List PO) : R D := (evE ρ γ b env G).bind (kIx2 x)
theorem kIx2_app (x y : D) (G : List PO) : kIx2 x y G = ixF x y G := (rfl)
theorem kIx1_app (b : IE) (env : Env) (x : D) (G : List PO) : kIx1 ρ γ b env x G = (evE ρ γ b env G).bind (kIx2 x) := (rfl)
def kSl3 (x : D) (l h : Option Int) (G : List PO) : R D := slF x l h G
noncomputable def kSl2 (hi : IO) (env : Env) (x : D) (l : Option Int) (G : List PO) : R D := (evO ρ γ hi env G).bind (kSl3 x l)
noncomputable def kSl1 (lo hi : IO) (env : Env) (x : D) (G : List PO) : R D := (evO ρ γ lo env G).bind (kSl2 ρ γ hi env x)
theorem kSl3_app (x : D) (l h : Option Int) (G : List PO) : kSl3 x l h G = slF x l h G := (rfl)
theorem kSl2_app (hi : IO) (env : Env) (x : D) (l : Option Int) (G : List PO) : kSl2 ρ γ hi env x l G = (evO ρ γ hi env G).bind (kSl3 x l) := (rfl)
theorem kSl1_app (lo hi : IO) (env : Env) (x : D) (G : List PO) : kSl1 ρ γ lo hi env x G = (evO ρ γ lo env G).bind (kSl2 ρ γ hi env x) := (rfl)
def kIsI (t : Ty) (x : D) (G : List PO) : R D := okB (isF x t G) G
theorem kIsI_app (t : Ty) (x : D) (G : List PO) : kIsI t x G = okB (isF x t G) G := (rfl)
def kCall (f : Nat) (xs : List D) (G : List PO) : R D := ρ f xs G
theorem kCall_app (f : Nat) (xs : List D) (G : List PO) : kCall ρ f xs G = ρ f xs G := (rfl)
noncomputable def kBlt (b : Bl) (xs : List D) (G : List PO) : R D := bltF b xs G
theorem kBlt_app (b : Bl) (xs : List D) (G : List PO) : kBlt b xs G = bltF b xs G := (rfl)
def kMth2 (m : Mt) (x : D) (xs : List D) (G : List PO) : R D := mthF m x xs G
noncomputable def kMth1 (m : Mt) (es : IEs) (env : Env) (x : D) (G : List PO) : R D := if mtOk m x G = true then (evEs ρ γ es env G).bind (kMth2 m x) else .bad
theorem kMth2_app (m : Mt) (x : D) (xs : List D) (G : List PO) : kMth2 m x xs G = mthF m x xs G := (rfl)
theorem kMth1_app (m : Mt) (es : IEs) (env : Env) (x : D) (G : List PO) (h : mtOk m x G = true) : kMth1 ρ γ m es env x G = (evEs ρ γ es env G).bind (kMth2 m x) := if_pos h
def kPart (x : D) (G : List PO) : R (Option Int) := match x with | .int i => .ok (some i) G | _ => .bad
theorem kPart_int (i : Int) (G : List PO) : kPart (.int i) G = .ok (some i) G := (rfl)
def kEs2 (x : D) (xs : List D) (G : List PO) : R (List D) := .ok (x :: xs) G
noncomputable def kEs1 (es : IEs) (env : Env) (x : D) (G : List PO) : R (List D) := (evEs ρ γ es env G).bind (kEs2 x)
theorem kEs2_app (x : D) (xs : List D) (G : List PO) : kEs2 x xs G = .ok (x :: xs) G := (rfl)
theorem kEs1_app (es : IEs) (env : Env) (x : D) (G : List PO) : kEs1 ρ γ es env x G = (evEs ρ γ es env G).bind (kEs2 x) := (rfl)
def kK3 (z : Key) (x : D) (r : List (Key × D)) (G : List PO) : R (List (Key × D)) := .ok ((z, x) :: r) G
noncomputable def kK2 (es : IKs) (env : Env) (y x : D) (G : List PO) : R (List (Key × D)) := match keyF y with
  | some z => (evK ρ γ es env G).bind (kK3 z x)
  | none => .bad
noncomputable def kK1 (e : IE) (es : IKs) (env : Env) (y : D) (G : List PO) : R (List (Key × D)) := (evE ρ γ e env G).bind (kK2 ρ γ es env y)
theorem kK3_app (z : Key) (x : D) (r : List (Key × D)) (G : List PO) : kK3 z x r G = .ok ((z, x) :: r) G := (rfl)
theorem kK2_str (es : IKs) (env : Env) (y : Str) (x : D) (G : List PO) : kK2 ρ γ es env (.str y) x G = (evK ρ γ es env G).bind (kK3 (.inr y) x) := (rfl)
theorem kK2_int (es : IKs) (env : Env) (y : Int) (x : D) (G : List PO) : kK2 ρ γ es env (.int y) x G = (evK ρ γ es env G).bind (kK3 (.inl y) x) := (rfl)
theorem kK1_app (e : IE) (es : IKs) (env : Env) (y : D) (G : List PO) : kK1 ρ γ e es env y G = (evE ρ γ e env G).bind (kK2 ρ γ es env y) := (rfl)
noncomputable def kA (es : IEs) (env : Env) (b : Bool) (G : List PO) : R Bool := match b with
  | true => evA ρ γ es env G
  | false => .ok false G
theorem kA_t (es : IEs) (env : Env) (G : List PO) : kA ρ γ es env true G = evA ρ γ es env G := (rfl)
theorem kA_f (es : IEs) (env : Env) (G : List PO) : kA ρ γ es env false G = .ok false G := (rfl)
def kVal (x : D) (G : List PO) : R Src := match srcF x G with | some s => .ok s G | none => .bad
theorem kVal_tup (xs : List D) (G : List PO) : kVal (.tup xs) G = .ok (none, xs) G := (rfl)
theorem kVal_rol (xs : List D) (G : List PO) : kVal (.rol xs) G = .ok (none, xs) G := (rfl)
theorem kVal_obj (n : Nat) (xs : List D) (G : List PO) (h : G[n]? = some (.lst xs)) : kVal (.obj n) G = .ok (some n, xs) G := by
  unfold kVal srcF
  simp only [h]
def kRng1 (x : D) (G : List PO) : R Src := match x with
  | .int j => if -(2 ^ 62) ≤ j ∧ j < 2 ^ 62 then .ok (none, rngF 0 j) G else .bad
  | _ => .bad
theorem kRng1_app (j : Int) (G : List PO) (h : -(2 ^ 62) ≤ j ∧ j < 2 ^ 62) : kRng1 (.int j) G = .ok (none, rngF 0 j) G := if_pos h
def kRng22 (x y : D) (G : List PO) : R Src := match x, y with
  | .int i, .int j => if -(2 ^ 62) ≤ i ∧ i < 2 ^ 62 ∧ -(2 ^ 62) ≤ j ∧ j < 2 ^ 62 then .ok (none, rngF i j) G else .bad
  | _, _ => .bad
theorem kRng22_app (i j : Int) (G : List PO) (h : -(2 ^ 62) ≤ i ∧ i < 2 ^ 62 ∧ -(2 ^ 62) ≤ j ∧ j < 2 ^ 62) : kRng22 (.int i) (.int j) G = .ok (none, rngF i j) G := if_pos h
noncomputable def kRng21 (b : IE) (env : Env) (x : D) (G : List PO) : R Src := (evE ρ γ b env G).bind (kRng22 x)
theorem kRng21_app (b : IE) (env : Env) (x : D) (G : List PO) : kRng21 ρ γ b env x G = (evE ρ γ b env G).bind (kRng22 x) := (rfl)
noncomputable def kTs (ts : ITs) (r : List D) (env : Env) (G : List PO) : R Env := asTs ρ γ ts r env G
theorem kTs_app (ts : ITs) (r : List D) (env : Env) (G : List PO) : kTs ρ γ ts r env G = asTs ρ γ ts r env G := (rfl)
def kEnv (env : Env) (u : Unit) (G : List PO) : R Env := .ok env G
theorem kEnv_app (env : Env) (u : Unit) (G : List PO) : kEnv env u G = .ok env G := (rfl)
def kSub2 (d : D) (env : Env) (x y : D) (G : List PO) : R Env := (setF x y d G).bind (kEnv env)
noncomputable def kSub1 (i : IE) (d : D) (env : Env) (x : D) (G : List PO) : R Env := (evE ρ γ i env G).bind (kSub2 d env x)
theorem kSub2_app (d : D) (env : Env) (x y : D) (G : List PO) : kSub2 d env x y G = (setF x y d G).bind (kEnv env) := (rfl)
theorem kSub1_app (i : IE) (d : D) (env : Env) (x : D) (G : List PO) : kSub1 ρ γ i d env x G = (evE ρ γ i env G).bind (kSub2 d env x) := (rfl)
-- comprehensions
def kT3 (y : D) (G : List PO) : R (Option D) := .ok (some y) G
noncomputable def kT2 (elt : IE) (env : Env) (b : Bool) (G : List PO) : R (Option D) := match b with
  | true => (evE ρ γ elt env G).bind kT3
  | false => .ok none G
noncomputable def kT1 (elt : IE) (ifs : IEs) (env : Env) (G : List PO) : R (Option D) := (evA ρ γ ifs env G).bind (kT2 ρ γ elt env)
noncomputable def turnK (elt : IE) (tg : IT) (ifs : IEs) (own : List Nat) (env : Env) (x : D) (G : List PO) : R (Option D) := (asT ρ γ tg x (wipeE env own) G).bind (kT1 ρ γ elt ifs)
theorem kT3_app (y : D) (G : List PO) : kT3 y G = .ok (some y) G := (rfl)
theorem kT2_t (elt : IE) (env : Env) (G : List PO) : kT2 ρ γ elt env true G = (evE ρ γ elt env G).bind kT3 := (rfl)
theorem kT2_f (elt : IE) (env : Env) (G : List PO) : kT2 ρ γ elt env false G = .ok none G := (rfl)
theorem kT1_app (elt : IE) (ifs : IEs) (env : Env) (G : List PO) : kT1 ρ γ elt ifs env G = (evA ρ γ ifs env G).bind (kT2 ρ γ elt env) := (rfl)
theorem turnK_app (elt : IE) (tg : IT) (ifs : IEs) (own : List Nat) (env : Env) (x : D) (G : List PO) : turnK ρ γ elt tg ifs own env x G = (asT ρ γ tg x (wipeE env own) G).bind (kT1 ρ γ elt ifs) := (rfl)
def kLcEnd (ys : List D) (G : List PO) : R D := .ok (.obj G.length) (G ++ [.lst ys])
theorem kLcEnd_app (ys : List D) (G : List PO) : kLcEnd ys G = .ok (.obj G.length) (G ++ [.lst ys]) := (rfl)
noncomputable def kLc (elt : IE) (tg : IT) (ifs : IEs) (own : List Nat) (env : Env) (src : Src) (G : List PO) : R D := if src.2.length ≤ sizeLine then (noExc (lcL src (turnK ρ γ elt tg ifs own env) src.2 G)).bind kLcEnd else .bad
theorem kLc_app (elt : IE) (tg : IT) (ifs : IEs) (own : List Nat) (env : Env) (src : Src) (G : List PO) (ys : List D) (G2 : List PO) (h : src.2.length ≤ sizeLine) (e : lcL src (turnK ρ γ elt tg ifs own env) src.2 G = .ok ys G2) :
    kLc ρ γ elt tg ifs own env src G = .ok (.obj G2.length) (G2 ++ [.lst ys]) := by
  unfold kLc
  rw [if_pos h, e]
  rfl
-- statements
def kNx (env : Env) (G : List PO) : R Out := .ok (.nx env) G
theorem kNx_app (env : Env) (G : List PO) : kNx env G = .ok (.nx env) G := (rfl)
noncomputable def kAsg (t : IT) (env : Env) (x : D) (G : List PO) : R Out := (asT ρ γ t x env G).bind kNx
theorem kAsg_app (t : IT) (env : Env) (x : D) (G : List PO) : kAsg ρ γ t env x G = (asT ρ γ t x env G).bind kNx := (rfl)
def kDrop (env : Env) (x : D) (G : List PO) : R Out := .ok (.nx env) G
theorem kDrop_app (env : Env) (x : D) (G : List PO) : kDrop env x G = .ok (.nx env) G := (rfl)
def kRt (x : D) (G : List PO) : R Out := .ok (.rt x) G
theorem kRt_app (x : D) (G : List PO) : kRt x G = .ok (.rt x) G := (rfl)
def kAug2 (i : Nat) (o : Op) (env : Env) (x y : D) (G : List PO) : R Out := match x, y with
  | .int a, .int b => match augF o a b with | some c => .ok (.nx (env.set i (some (.int c)))) G | none => .bad
  | _, _ => .bad
theorem kAug2_add (i : Nat) (env : Env) (a b : Int) (G : List PO) : kAug2 i .add env (.int a) (.int b) G = .ok (.nx (env.set i (some (.int (a + b))))) G := (rfl)
theorem kAug2_sub (i : Nat) (env : Env) (a b : Int) (G : List PO) : kAug2 i .sub env (.int a) (.int b) G = .ok (.nx (env.set i (some (.int (a - b))))) G := (rfl)
noncomputable def kAug (i : Nat) (o : Op) (e : IE) (env : Env) (v : Option (Option D)) (G : List PO) : R Out := match v with
  | some (some x) => (evE ρ γ e env G).bind (kAug2 i o env x)
  | _ => .bad
theorem kAug_some (i : Nat) (o : Op) (e : IE) (env : Env) (x : D) (G : List PO) : kAug ρ γ i o e env (some (some x)) G = (evE ρ γ e env G).bind (kAug2 i o env x) := (rfl)
noncomputable def kIf (a b : ISs) (env : Env) (c : Bool) (G : List PO) : R Out := match c with
  | true => evSs ρ γ a env G
  | false => evSs ρ γ b env G
theorem kIf_t (a b : ISs) (env : Env) (G : List PO) : kIf ρ γ a b env true G = evSs ρ γ a env G := (rfl)
theorem kIf_f (a b : ISs) (env : Env) (G : List PO) : kIf ρ γ a b env false G = evSs ρ γ b env G := (rfl)
noncomputable def kBody (b : ISs) (env : Env) (G : List PO) : R Out := evSs ρ γ b env G
theorem kBody_app (b : ISs) (env : Env) (G : List PO) : kBody ρ γ b env G = evSs ρ γ b env G := (rfl)
noncomputable def bodyK (t : IT) (b : ISs) (x : D) (e : Env) (G : List PO) : R Out := (asT ρ γ t x e G).bind (kBody ρ γ b)
theorem bodyK_app (t : IT) (b : ISs) (x : D) (e : Env) (G : List PO) : bodyK ρ γ t b x e G = (asT ρ γ t x e G).bind (kBody ρ γ b) := (rfl)
noncomputable def kFor (t : IT) (b : ISs) (env : Env) (src : Src) (G : List PO) : R Out := forL src (bodyK ρ γ t b) src.2 env G
theorem kFor_app (t : IT) (b : ISs) (env : Env) (src : Src) (G : List PO) : kFor ρ γ t b env src G = forL src (bodyK ρ γ t b) src.2 env G := (rfl)
noncomputable def kSeq (r : ISs) (o : Out) (G : List PO) : R Out := match o with | .nx e => evSs ρ γ r e G | o => .ok o G
theorem kSeq_nx (r : ISs) (e : Env) (G : List PO) : kSeq ρ γ r (.nx e) G = evSs ρ γ r e G := (rfl)
theorem kSeq_rt (r : ISs) (d : D) (G : List PO) : kSeq ρ γ r (.rt d) G = .ok (.rt d) G := (rfl)
theorem kSeq_bk (r : ISs) (d : Env) (G : List PO) : kSeq ρ γ r (.bk d) G = .ok (.bk d) G := (rfl)
theorem kSeq_ct (r : ISs) (d : Env) (G : List PO) : kSeq ρ γ r (.ct d) G = .ok (.ct d) G := (rfl)
def kRet (o : Out) (G : List PO) : R D := match o with | .rt x => .ok x G | .nx _ => .ok .non G | _ => .bad
theorem kRet_rt (x : D) (G : List PO) : kRet (.rt x) G = .ok x G := (rfl)
theorem kRet_nx (e : Env) (G : List PO) : kRet (.nx e) G = .ok .non G := (rfl)
noncomputable def wTest (c : IE) (e : Env) (G : List PO) : R Bool := boolR (evE ρ γ c e G)
theorem wTest_app (c : IE) (e : Env) (G : List PO) : wTest ρ γ c e G = boolR (evE ρ γ c e G) := (rfl)
def kTp (ts : ITs) (d : D) (env : Env) (G : List PO) (go : List D → Env → List PO → R Env) : R Env := match d with | .tup xs => if xs.length = ts.len then go xs env G else .bad | _ => .bad

theorem evE_var (i : Nat) (env : Env) (G : List PO) : evE ρ γ (.var i) env G = kVar env[i]? G := (rfl)
theorem evE_cst (d : D) (env : Env) (G : List PO) : evE ρ γ (.cst d) env G = .ok d G := (rfl)
theorem evE_glb (g : Nat) (env : Env) (G : List PO) : evE ρ γ (.glb g) env G = .ok (γ g) G := (rfl)
theorem evE_op (o : Op) (a b : IE) (env : Env) (G : List PO) : evE ρ γ (.op o a b) env G = (evE ρ γ a env G).bind (kOp1 ρ γ o b env) := (rfl)
theorem evE_neg (a : IE) (env : Env) (G : List PO) : evE ρ γ (.neg a) env G = (evE ρ γ a env G).bind kNeg := (rfl)
theorem evE_cmp (c : Cm) (a b : IE) (env : Env) (G : List PO) : evE ρ γ (.cmp c a b) env G = (evE ρ γ a env G).bind (kCmp1 ρ γ c b env) := (rfl)
theorem evE_chain (c e : Cm) (x y z : IE) (env : Env) (G : List PO) : evE ρ γ (.chain c e x y z) env G = (evE ρ γ x env G).bind (kCh1 ρ γ c e y z env) := by
  show R.bind _ _ = R.bind _ _
  congr 1
  funext u G1
  show R.bind _ _ = R.bind _ _
  congr 1
  funext v G2
  unfold kCh2
  cases cmF c u v with
  | none => rfl
  | some b => cases b <;> rfl
theorem evE_isN (a : IE) (env : Env) (G : List PO) : evE ρ γ (.isN a) env G = (evE ρ γ a env G).bind kIsN := (rfl)
theorem evE_notN (a : IE) (env : Env) (G : List PO) : evE ρ γ (.notN a) env G = (evE ρ γ a env G).bind kNotN := by
  have e : (fun (x : D) (G1 : List PO) => R.ok (D.bl (match x with | .non => false | _ => true)) G1) = kNotN := by
    funext x G1
    cases x <;> rfl
  rw [← e]
  rfl
theorem evE_and (a b : IE) (env : Env) (G : List PO) : evE ρ γ (.and a b) env G = (boolR (evE ρ γ a env G)).bind (kAnd ρ γ b env) := by
  show R.bind _ _ = R.bind _ _
  congr 1
  funext c G1
  cases c <;> rfl
theorem evE_or (a b : IE) (env : Env) (G : List PO) : evE ρ γ (.or a b) env G = (boolR (evE ρ γ a env G)).bind (kOr ρ γ b env) := by
  show R.bind _ _ = R.bind _ _
  congr 1
  funext c G1
  cases c <;> rfl
theorem evE_not (a : IE) (env : Env) (G : List PO) : evE ρ γ (.not a) env G = (boolR (evE ρ γ a env G)).bind kNot := (rfl)
theorem evE_ite (c a b : IE) (env : Env) (G : List PO) : evE ρ γ (.ite c a b) env G = (boolR (evE ρ γ c env G)).bind (kIte ρ γ a b env) := by
  show R.bind _ _ = R.bind _ _
  congr 1
  funext c G1
  cases c <;> rfl
theorem evE_tup (es : IEs) (env : Env) (G : List PO) : evE ρ γ (.tup es) env G = (evEs ρ γ es env G).bind kTup := (rfl)
theorem evE_lst (es : IEs) (env : Env) (G : List PO) : evE ρ γ (.lst es) env G = (evEs ρ γ es env G).bind kLst := (rfl)
theorem evE_dct (es : IKs) (env : Env) (G : List PO) : evE ρ γ (.dct es) env G = (evK ρ γ es env G).bind kDct := (rfl)
theorem evE_ix (a b : IE) (env : Env) (G : List PO) : evE ρ γ (.ix a b) env G = (evE ρ γ a env G).bind (kIx1 ρ γ b env) := (rfl)
theorem evE_slc (a : IE) (lo hi : IO) (env : Env) (G : List PO) : evE ρ γ (.slc a lo hi) env G = (evE ρ γ a env G).bind (kSl1 ρ γ lo hi env) := (rfl)
theorem evE_isI (a : IE) (t : Ty) (env : Env) (G : List PO) : evE ρ γ (.isI a t) env G = (evE ρ γ a env G).bind (kIsI t) := (rfl)
theorem evE_call (f : Nat) (es : IEs) (env : Env) (G : List PO) : evE ρ γ (.call f es) env G = (evEs ρ γ es env G).bind (kCall ρ f) := (rfl)
theorem evE_blt (b : Bl) (es : IEs) (env : Env) (G : List PO) : evE ρ γ (.blt b es) env G = (evEs ρ γ es env G).bind (kBlt b) := (rfl)
theorem evE_mth (m : Mt) (o : IE) (es : IEs) (env : Env) (G : List PO) : evE ρ γ (.mth m o es) env G = (evE ρ γ o env G).bind (kMth1 ρ γ m es env) := (rfl)
theorem evE_lc (elt : IE) (tg : IT) (it : II) (ifs : IEs) (own : List Nat) (env : Env) (G : List PO) : evE ρ γ (.lc elt tg it ifs own) env G = (evI ρ γ it env G).bind (kLc ρ γ elt tg ifs own env) := by
  show R.bind _ _ = R.bind _ _
  congr 1
  funext src G1
  unfold kLc
  have e : (fun x G => (asT ρ γ tg x (wipeE env own) G).bind fun env2 G2 => (evA ρ γ ifs env2 G2).bind fun b G3 => if b = true then (evE ρ γ elt env2 G3).bind fun y G4 => R.ok (some y) G4 else .ok none G3) = turnK ρ γ elt tg ifs own env := by
    funext x G
    show R.bind _ _ = R.bind _ _
    congr 1
    funext e2 G2
    show R.bind _ _ = R.bind _ _
    congr 1
    funext b G3
    cases b <;> rfl
  rw [e]
  rfl
theorem evO_no (env : Env) (G : List PO) : evO ρ γ .no env G = .ok none G := (rfl)
theorem evO_so (e : IE) (env : Env) (G : List PO) : evO ρ γ (.so e) env G = (evE ρ γ e env G).bind kPart := (rfl)
theorem evEs_nil (env : Env) (G : List PO) : evEs ρ γ .nil env G = .ok [] G := (rfl)
theorem evEs_cons (e : IE) (es : IEs) (env : Env) (G : List PO) : evEs ρ γ (.cons e es) env G = (evE ρ γ e env G).bind (kEs1 ρ γ es env) := (rfl)
theorem evK_nil (env : Env) (G : List PO) : evK ρ γ .nil env G = .ok [] G := (rfl)
theorem evK_cons (k e : IE) (es : IKs) (env : Env) (G : List PO) : evK ρ γ (.cons k e es) env G = (evE ρ γ k env G).bind (kK1 ρ γ e es env) := (rfl)
theorem evA_nil (env : Env) (G : List PO) : evA ρ γ .nil env G = .ok true G := (rfl)
theorem evA_cons (e : IE) (es : IEs) (env : Env) (G : List PO) : evA ρ γ (.cons e es) env G = (boolR (evE ρ γ e env G)).bind (kA ρ γ es env) := by
  show R.bind _ _ = R.bind _ _
  congr 1
  funext c G1
  cases c <;> rfl
theorem evI_val (e : IE) (env : Env) (G : List PO) : evI ρ γ (.val e) env G = (evE ρ γ e env G).bind kVal := (rfl)
theorem evI_rng1 (e : IE) (env : Env) (G : List PO) : evI ρ γ (.rng1 e) env G = (evE ρ γ e env G).bind kRng1 := (rfl)
theorem evI_rng2 (a b : IE) (env : Env) (G : List PO) : evI ρ γ (.rng2 a b) env G = (evE ρ γ a env G).bind (kRng21 ρ γ b env) := (rfl)
theorem asT_nm (i : Nat) (d : D) (env : Env) (G : List PO) : asT ρ γ (.nm i) d env G = .ok (env.set i (some d)) G := (rfl)
theorem asT_tp (ts : ITs) (xs : List D) (env : Env) (G : List PO) : asT ρ γ (.tp ts) (.tup xs) env G = if xs.length = ts.len then asTs ρ γ ts xs env G else .bad := (rfl)
theorem asT_sub (o i : IE) (d : D) (env : Env) (G : List PO) : asT ρ γ (.sub o i) d env G = (evE ρ γ o env G).bind (kSub1 ρ γ i d env) := (rfl)
theorem asTs_nil (env : Env) (G : List PO) : asTs ρ γ .nil [] env G = .ok env G := (rfl)
theorem asTs_cons (t : IT) (ts : ITs) (x : D) (r : List D) (env : Env) (G : List PO) : asTs ρ γ (.cons t ts) (x :: r) env G = (asT ρ γ t x env G).bind (kTs ρ γ ts r) := (rfl)
theorem evS_asg (t : IT) (e : IE) (env : Env) (G : List PO) : evS ρ γ (.asg t e) env G = (evE ρ γ e env G).bind (kAsg ρ γ t env) := (rfl)
theorem evS_aug (i : Nat) (o : Op) (e : IE) (env : Env) (G : List PO) : evS ρ γ (.aug i o e) env G = kAug ρ γ i o e env env[i]? G := (rfl)
theorem evS_expr (e : IE) (env : Env) (G : List PO) : evS ρ γ (.expr e) env G = (evE ρ γ e env G).bind (kDrop env) := (rfl)
theorem evS_ret (e : IE) (env : Env) (G : List PO) : evS ρ γ (.ret e) env G = (evE ρ γ e env G).bind kRt := (rfl)
theorem evS_retN (env : Env) (G : List PO) : evS ρ γ .retN env G = .ok (.rt .non) G := (rfl)
theorem evS_ifs (c : IE) (a b : ISs) (env : Env) (G : List PO) : evS ρ γ (.ifs c a b) env G = (boolR (evE ρ γ c env G)).bind (kIf ρ γ a b env) := by
  show R.bind _ _ = R.bind _ _
  congr 1
  funext c G1
  cases c <;> rfl
theorem evS_fors (t : IT) (it : II) (b : ISs) (env : Env) (G : List PO) : evS ρ γ (.fors t it b) env G = (evI ρ γ it env G).bind (kFor ρ γ t b env) := (rfl)
theorem evS_whil (c : IE) (b : ISs) (env : Env) (G : List PO) : evS ρ γ (.whil c b) env G = whileL (wTest ρ γ c) (kBody ρ γ b) fuel env G := (rfl)
theorem evS_brk (env : Env) (G : List PO) : evS ρ γ .brk env G = .ok (.bk env) G := (rfl)
theorem evS_cnt (env : Env) (G : List PO) : evS ρ γ .cnt env G = .ok (.ct env) G := (rfl)
theorem evS_pass (env : Env) (G : List PO) : evS ρ γ .pass env G = .ok (.nx env) G := (rfl)
theorem evSs_nil (env : Env) (G : List PO) : evSs ρ γ .nil env G = .ok (.nx env) G := (rfl)
theorem evSs_cons (s : IS) (r : ISs) (env : Env) (G : List PO) : evSs ρ γ (.cons s r) env G = (evS ρ γ s env G).bind (kSeq ρ γ r) := (rfl)
end
theorem callD_app (ρ : Nat → Den) (γ : Nat → D) (d : IDef) (ds : List D) (G : List PO) (h : ds.length = d.np) : callD ρ γ d ds G = (evSs ρ γ d.body (ds.map some ++ List.replicate (d.ns - d.np) none) G).bind kRet := if_pos h
theorem boolR_ok (b : Bool) (G : List PO) : boolR (.ok (.bl b) G) = .ok b G := (rfl)
theorem okB_some (b : Bool) (G : List PO) : okB (some b) G = .ok (.bl b) G := (rfl)
theorem okO_some (d : D) (G : List PO) : okO (some d) G = .ok d G := (rfl)

/-! ### operations on known kinds -/
theorem opF_add (a b : Int) (G : List PO) : opF .add (.int a) (.int b) G = .ok (.int (a + b)) G := (rfl)
theorem opF_sub (a b : Int) (G : List PO) : opF .sub (.int a) (.int b) G = .ok (.int (a - b)) G := (rfl)
theorem opF_mul (a b : Int) (G : List PO) (h : CMulA a b) : opF .mul (.int a) (.int b) G = .ok (.int (a * b)) G := if_pos h
theorem opF_fdiv (a b : Int) (G : List PO) (h : CDivW a b) : opF .fdiv (.int a) (.int b) G = .ok (.int (a / b)) G := if_pos h
theorem opF_mod (a b : Int) (G : List PO) (h : 0 < b) : opF .mod (.int a) (.int b) G = .ok (.int (a % b)) G := if_pos h
theorem opF_pow (a b : Int) (G : List PO) (h : CPow a b) : opF .pow (.int a) (.int b) G = .ok (.int (a ^ b.toNat)) G := if_pos h
theorem opF_str (a b : Str) (G : List PO) (h : a.length + b.length ≤ sizeLine) : opF .add (.str a) (.str b) G = .ok (.str (a ++ b)) G := if_pos h
theorem opF_tup (a b : List D) (G : List PO) (h : a.length + b.length ≤ sizeLine) : opF .add (.tup a) (.tup b) G = .ok (.tup (a ++ b)) G := if_pos h
theorem cmF_eq_int (a b : Int) : cmF .eq (.int a) (.int b) = some (decide (a = b)) := (rfl)
theorem cmF_ne_int (a b : Int) : cmF .ne (.int a) (.int b) = some (!decide (a = b)) := (rfl)
theorem cmF_lt_int (a b : Int) : cmF .lt (.int a) (.int b) = some (decide (a < b)) := (rfl)
theorem cmF_le_int (a b : Int) : cmF .le (.int a) (.int b) = some (decide (a ≤ b)) := (rfl)
theorem cmF_gt_int (a b : Int) : cmF .gt (.int a) (.int b) = some (decide (b < a)) := (rfl)
theorem cmF_ge_int (a b : Int) : cmF .ge (.int a) (.int b) = some (decide (b ≤ a)) := (rfl)
theorem cmF_eq_str (a b : Str) : cmF .eq (.str a) (.str b) = some (decide (a = b)) := (rfl)
theorem cmF_ne_str (a b : Str) : cmF .ne (.str a) (.str b) = some (!decide (a = b)) := (rfl)
theorem ixF_t0 (a : D) (r : List D) (G : List PO) : ixF (.tup (a :: r)) (.int 0) G = .ok a G := by
  show okO (atI (a :: r) 0) G = _
  rw [show atI (a :: r) 0 = some a from atI_nat (j := 0) rfl]; rfl
theorem ixF_t1 (a b : D) (r : List D) (G : List PO) : ixF (.tup (a :: b :: r)) (.int 1) G = .ok b G := by
  show okO (atI (a :: b :: r) 1) G = _
  rw [show atI (a :: b :: r) 1 = some b from atI_nat (j := 1) rfl]; rfl
theorem ixF_t2 (a b c : D) (r : List D) (G : List PO) : ixF (.tup (a :: b :: c :: r)) (.int 2) G = .ok c G := by
  show okO (atI (a :: b :: c :: r) 2) G = _
  rw [show atI (a :: b :: c :: r) 2 = some c from atI_nat (j := 2) rfl]; rfl
theorem ixF_l0 (n : Nat) (a : D) (r : List D) (G : List PO) (h : G[n]? = some (.lst (a :: r))) : ixF (.obj n) (.int 0) G = .ok a G := by
  unfold ixF
  simp only [h]
  rw [show atI (a :: r) 0 = some a from atI_nat (j := 0) rfl]; rfl
theorem ixF_l1 (n : Nat) (a b : D) (r : List D) (G : List PO) (h : G[n]? = some (.lst (a :: b :: r))) : ixF (.obj n) (.int 1) G = .ok b G := by
  unfold ixF
  simp only [h]
  rw [show atI (a :: b :: r) 1 = some b from atI_nat (j := 1) rfl]; rfl
theorem ixF_tup (xs : List D) (i : Int) (G : List PO) (d : D) (h : atI xs i = some d) : ixF (.tup xs) (.int i) G = .ok d G := by
  show okO (atI xs i) G = _
  rw [h]; rfl
theorem ixF_rol (xs : List D) (i : Int) (G : List PO) (d : D) (h : atI xs i = some d) : ixF (.rol xs) (.int i) G = .ok d G := by
  show okO (atI xs i) G = _
  rw [h]; rfl
theorem ixF_lst (n : Nat) (xs : List D) (i : Int) (G : List PO) (d : D) (hG : G[n]? = some (.lst xs)) (h : atI xs i = some d) : ixF (.obj n) (.int i) G = .ok d G := by
  unfold ixF
  simp only [hG, h]
  rfl
theorem ixF_dk (n : Nat) (kvs : List (Key × D)) (y : D) (k : Key) (G : List PO) (d : D) (hG : G[n]? = some (.dk kvs)) (hk : keyF y = some k) (h : getK kvs k = some d) : ixF (.obj n) y G = .ok d G := by
  unfold ixF
  simp only [hG, hk, h]
  rfl
theorem len_tup (xs : List D) (G : List PO) : bltF .len [.tup xs] G = .ok (.int xs.length) G := (rfl)
theorem len_rol (xs : List D) (G : List PO) : bltF .len [.rol xs] G = .ok (.int xs.length) G := (rfl)
theorem len_lst (n : Nat) (xs : List D) (G : List PO) (h : G[n]? = some (.lst xs)) : bltF .len [.obj n] G = .ok (.int xs.length) G := by
  unfold bltF seqF
  simp only [h]
theorem tuple_lst (n : Nat) (xs : List D) (G : List PO) (h : G[n]? = some (.lst xs)) : bltF .tuple1 [.obj n] G = .ok (.tup xs) G := by
  unfold bltF seqF
  simp only [h]
theorem list_tup (xs : List D) (G : List PO) : bltF .list1 [.tup xs] G = .ok (.obj G.length) (G ++ [.lst xs]) := (rfl)
theorem min2_int (a b : Int) (G : List PO) : bltF .min2 [.int a, .int b] G = .ok (.int (if b < a then b else a)) G := (rfl)
theorem max2_int (a b : Int) (G : List PO) : bltF .max2 [.int a, .int b] G = .ok (.int (if b > a then b else a)) G := (rfl)
theorem abs_int (a : Int) (G : List PO) : bltF .abs [.int a] G = .ok (.int (if a < 0 then -a else a)) G := (rfl)
theorem int1_int (a : Int) (G : List PO) : bltF .int1 [.int a] G = .ok (.int a) G := (rfl)
theorem int1_bl (a : Bool) (G : List PO) : bltF .int1 [.bl a] G = .ok (.int (if a then 1 else 0)) G := (rfl)
theorem gcd_int (a b : Int) (G : List PO) : bltF .gcd [.int a, .int b] G = .ok (.int ((Nat.gcd a.natAbs b.natAbs : Nat) : Int)) G := (rfl)
theorem comb_int (a b : Int) (G : List PO) (h : 0 ≤ a ∧ 0 ≤ b ∧ a ≤ 18000) : bltF .comb [.int a, .int b] G = .ok (.int (PySem.W.mcComb a b)) G := if_pos h
theorem append_lst (n : Nat) (l : List D) (y : D) (G : List PO) (h : G[n]? = some (.lst l)) (hl : l.length < 16000000) : mthF .append (.obj n) [y] G = .ok .non (G.set n (.lst (l ++ [y]))) := by
  unfold mthF
  simp only [h]
  exact if_pos (Nat.lt_of_lt_of_le hl (by decide))
theorem mtOk_lst (n : Nat) (l : List D) (G : List PO) (h : G[n]? = some (.lst l)) : mtOk .append (.obj n) G = true := by
  unfold mtOk
  simp only [h]
theorem setF_dk (n : Nat) (kvs : List (Key × D)) (y v : D) (k : Key) (G : List PO) (hG : G[n]? = some (.dk kvs)) (hk : keyF y = some k) (hl : kvs.length < 16000000) : setF (.obj n) y v G = .ok () (G.set n (.dk (setK kvs k v))) := by
  unfold setF
  simp only [hG, hk]
  exact if_pos (Nat.lt_of_lt_of_le hl (by decide))

/-! ### the heap -/
/-- what stood stands, but at S -/
structure Kp (S : List Nat) (G G' : List PO) : Prop where
  len : G.length ≤ G'.length
  at_ : ∀ i, i < G.length → i ∉ S → G'[i]? = G[i]?
theorem Kp.refl (S : List Nat) (G : List PO) : Kp S G G := ⟨Nat.le_refl _, fun _ _ _ => rfl⟩
theorem Kp.trans {S : List Nat} {G G1 G2 : List PO} (a : Kp S G G1) (b : Kp S G1 G2) : Kp S G G2 := ⟨Nat.le_trans a.len b.len, fun i h n => (b.at_ i (Nat.lt_of_lt_of_le h a.len) n).trans (a.at_ i h n)⟩
theorem Kp.weak {S S' : List Nat} {G G1 : List PO} (a : Kp S G G1) (h : ∀ i ∈ S, i ∈ S') : Kp S' G G1 := ⟨a.len, fun i hi n => a.at_ i hi fun z => n (h i z)⟩
theorem Kp.nil {S : List Nat} {G G1 : List PO} (a : Kp [] G G1) : Kp S G G1 := a.weak fun _ h => by cases h
theorem Kp.push (S : List Nat) (G t : List PO) : Kp S G (G ++ t) := ⟨by simp, fun i h _ => List.getElem?_append_left h⟩
theorem Kp.set {n : Nat} {S : List Nat} (h : n ∈ S) (G : List PO) (o : PO) : Kp S G (G.set n o) := ⟨by simp, fun i _ hn => by rw [List.getElem?_set_ne]; intro e; exact hn (e ▸ h)⟩
theorem Kp.get {S : List Nat} {G G' : List PO} (a : Kp S G G') {i : Nat} {o : PO} (h : G[i]? = some o) (n : i ∉ S) : G'[i]? = some o := by
  rw [a.at_ i (List.getElem?_eq_some_iff.mp h).1 n]; exact h
/-- a change that only met what came later -/
theorem Kp.late {S : List Nat} {G G1 G2 : List PO} {n : Nat} (a : Kp S G G1) (b : Kp (n :: S) G1 G2) (h : G.length ≤ n) : Kp S G G2 := ⟨Nat.le_trans a.len b.len, fun i hi hn => by
  rw [b.at_ i (Nat.lt_of_lt_of_le hi a.len) (by intro z; rcases List.mem_cons.mp z with z | z; omega; exact hn z)]
  exact a.at_ i hi hn⟩

/-! ### loops -/
noncomputable def kLoop (src : Src) (body : D → Env → List PO → R Out) (xs : List D) (o : Out) (G : List PO) : R Out := match o with
  | .nx e => forL src body xs e G
  | .ct e => forL src body xs e G
  | .bk e => .ok (.nx e) G
  | .rt d => .ok (.rt d) G
theorem kLoop_nx (src : Src) (body : D → Env → List PO → R Out) (xs : List D) (e : Env) (G : List PO) : kLoop src body xs (.nx e) G = forL src body xs e G := (rfl)
theorem kLoop_ct (src : Src) (body : D → Env → List PO → R Out) (xs : List D) (e : Env) (G : List PO) : kLoop src body xs (.ct e) G = forL src body xs e G := (rfl)
theorem kLoop_bk (src : Src) (body : D → Env → List PO → R Out) (xs : List D) (e : Env) (G : List PO) : kLoop src body xs (.bk e) G = .ok (.nx e) G := (rfl)
theorem kLoop_rt (src : Src) (body : D → Env → List PO → R Out) (xs : List D) (d : D) (G : List PO) : kLoop src body xs (.rt d) G = .ok (.rt d) G := (rfl)
theorem forL_cons0 (ys : List D) (body : D → Env → List PO → R Out) (x : D) (xs : List D) (env : Env) (G : List PO) : forL (none, ys) body (x :: xs) env G = (body x env G).bind (kLoop (none, ys) body xs) := by
  conv => lhs; unfold forL
  rw [if_pos (show Src.Ok (none, ys) G from trivial)]
  rfl
theorem forL_nil0 (ys : List D) (body : D → Env → List PO → R Out) (env : Env) (G : List PO) : forL (none, ys) body [] env G = .ok (.nx env) G := by
  unfold forL
  rw [if_pos (show Src.Ok (none, ys) G from trivial)]
theorem forL_rule {src : Src} {body : D → Env → List PO → R Out} (I : Nat → Env → List PO → Prop) (P : Env → List PO → Prop) (Q : D → List PO → Prop)
    (ok : ∀ i env G, i ≤ src.2.length → I i env G → src.Ok G)
    (turn : ∀ i x env G, src.2[i]? = some x → I i env G → ∃ o G', body x env G = .ok o G' ∧ match o with | .nx e => I (i + 1) e G' | .ct e => I (i + 1) e G' | .bk e => P e G' | .rt d => Q d G') :
    ∀ env G, I 0 env G → ∃ o G', forL src body src.2 env G = .ok o G' ∧ match o with | .nx e => I src.2.length e G' ∨ P e G' | .rt d => Q d G' | _ => False := by
  have gen : ∀ (m i : Nat) (env : Env) (G : List PO), i + m = src.2.length → I i env G → ∃ o G', forL src body (src.2.drop i) env G = .ok o G' ∧ match o with | .nx e => I src.2.length e G' ∨ P e G' | .rt d => Q d G' | _ => False := by
    intro m
    induction m with
    | zero =>
      intro i env G hi h
      have e : i = src.2.length := by omega
      subst e
      rw [List.drop_length]
      unfold forL
      rw [if_pos (ok _ env G (Nat.le_refl _) h)]
      exact ⟨_, _, rfl, .inl h⟩
    | succ m ih =>
      intro i env G hi h
      have hlt : i < src.2.length := by omega
      rw [List.drop_eq_getElem_cons hlt]
      unfold forL
      rw [if_pos (ok i env G (by omega) h)]
      obtain ⟨o, G', e, hp⟩ := turn i src.2[i] env G (List.getElem?_eq_getElem hlt) h
      rw [e]
      simp only [R.bind_ok]
      cases o with
      | nx e1 => exact ih (i + 1) e1 G' (by omega) hp
      | ct e1 => exact ih (i + 1) e1 G' (by omega) hp
      | bk e1 => exact ⟨_, _, rfl, .inr hp⟩
      | rt d => exact ⟨_, _, rfl, hp⟩
  intro env G h
  have := gen src.2.length 0 env G (by simp) h
  rw [List.drop_zero] at this
  exact this
/-- a loop that runs through -/
theorem forL_all {src : Src} {body : D → Env → List PO → R Out} (I : Nat → Env → List PO → Prop)
    (ok : ∀ i env G, i ≤ src.2.length → I i env G → src.Ok G)
    (turn : ∀ i x env G, src.2[i]? = some x → I i env G → ∃ e G', body x env G = .ok (.nx e) G' ∧ I (i + 1) e G') :
    ∀ env G, I 0 env G → ∃ e G', forL src body src.2 env G = .ok (.nx e) G' ∧ I src.2.length e G' := by
  intro env G h
  obtain ⟨o, G', e, hp⟩ := forL_rule I (fun _ _ => False) (fun _ _ => False) ok (fun i x env G hx hI => by
    obtain ⟨e, G', h1, h2⟩ := turn i x env G hx hI
    exact ⟨_, G', h1, h2⟩) env G h
  cases o with
  | nx e1 => exact ⟨e1, G', e, hp.elim id False.elim⟩
  | rt d => exact hp.elim
  | bk e1 => exact hp.elim
  | ct e1 => exact hp.elim
theorem lcL_rule {src : Src} {turn : D → List PO → R (Option D)} (f : D → Option D) (I : List PO → Prop) (ok : ∀ G, I G → src.Ok G)
    (step : ∀ x G, x ∈ src.2 → I G → ∃ G', turn x G = .ok (f x) G' ∧ I G') : ∀ G, I G → ∃ G', lcL src turn src.2 G = .ok (src.2.filterMap f) G' ∧ I G' := by
  have gen : ∀ (xs : List D), (∀ x ∈ xs, x ∈ src.2) → ∀ G, I G → ∃ G', lcL src turn xs G = .ok (xs.filterMap f) G' ∧ I G' := by
    intro xs
    induction xs with
    | nil =>
      intro _ G h
      unfold lcL
      rw [if_pos (ok G h)]
      exact ⟨G, rfl, h⟩
    | cons x xs ih =>
      intro hm G h
      unfold lcL
      rw [if_pos (ok G h)]
      obtain ⟨G1, e1, h1⟩ := step x G (hm x List.mem_cons_self) h
      obtain ⟨G2, e2, h2⟩ := ih (fun y hy => hm y (List.mem_cons_of_mem _ hy)) G1 h1
      rw [e1]
      simp only [R.bind_ok, e2]
      refine ⟨G2, ?_, h2⟩
      rw [List.filterMap_cons]
      cases f x <;> rfl
  exact gen src.2 fun _ h => h
theorem whileL_rule {test : Env → List PO → R Bool} {body : Env → List PO → R Out} (I : Nat → Env → List PO → Prop) (P : Env → List PO → Prop) (Q : D → List PO → Prop)
    (turn : ∀ m env G, I m env G → ∃ b G1, test env G = .ok b G1 ∧ match b with
      | false => P env G1
      | true => ∃ o G2, body env G1 = .ok o G2 ∧ match o with | .nx e => ∃ m', m' < m ∧ I m' e G2 | .ct e => ∃ m', m' < m ∧ I m' e G2 | .bk e => P e G2 | .rt d => Q d G2) :
    ∀ n m env G, m < n → I m env G → ∃ o G', whileL test body n env G = .ok o G' ∧ match o with | .nx e => P e G' | .rt d => Q d G' | _ => False := by
  intro n
  induction n with
  | zero => intro m env G h; omega
  | succ n ih =>
    intro m env G hm h
    unfold whileL
    obtain ⟨b, G1, e, hb⟩ := turn m env G h
    rw [e]
    simp only [R.bind_ok]
    cases b with
    | false => exact ⟨_, _, rfl, hb⟩
    | true =>
      obtain ⟨o, G2, e2, ho⟩ := hb
      simp only [if_true, e2, R.bind_ok]
      cases o with
      | nx e1 => obtain ⟨m', h1, h2⟩ := ho; exact ih m' e1 G2 (by omega) h2
      | ct e1 => obtain ⟨m', h1, h2⟩ := ho; exact ih m' e1 G2 (by omega) h2
      | bk e1 => exact ⟨_, _, rfl, ho⟩
      | rt d => exact ⟨_, _, rfl, ho⟩
/-! ### what a result is -/
structure Res {α : Type} (r : R α) (Q : α → List PO → Prop) : Prop where
  ex : ∃ a G, r = .ok a G ∧ Q a G
theorem Res.of {α : Type} {m : R α} {Q : α → List PO → Prop} (h : ∃ a G, m = .ok a G ∧ Q a G) : Res m Q := ⟨h⟩
theorem Res_ok {α : Type} (a : α) (G : List PO) (Q : α → List PO → Prop) : Res (.ok a G) Q = Q a G := by
  apply propext
  constructor
  · rintro ⟨a', G', e, h⟩
    cases e
    exact h
  · intro h; exact ⟨a, G, rfl, h⟩
theorem Res.bind {α β : Type} {m : R α} {f : α → List PO → R β} {P : α → List PO → Prop} {Q : β → List PO → Prop} (h : Res m P) (k : ∀ a G, P a G → Res (f a G) Q) : Res (m.bind f) Q := by
  obtain ⟨a, G, rfl, q⟩ := h.ex
  exact k a G q
theorem Res.imp {α : Type} {m : R α} {P Q : α → List PO → Prop} (h : Res m P) (k : ∀ a G, P a G → Q a G) : Res m Q := by
  obtain ⟨a, G, rfl, q⟩ := h.ex
  exact ⟨a, G, rfl, k a G q⟩
theorem Res.eq {α : Type} {m : R α} {a : α} {G : List PO} (h : Res m fun x G' => x = a ∧ G' = G) : m = .ok a G := by
  obtain ⟨x, G', e, rfl, rfl⟩ := h.ex
  exact e
theorem R.bind_assoc' {α β δ : Type} (r : R α) (f : α → List PO → R β) (g : β → List PO → R δ) : (r.bind f).bind g = r.bind fun a G => (f a G).bind g := by cases r <;> rfl
/-- where a turn may lead -/
def Tn (I : Nat → Env → List PO → Prop) (P : Env → List PO → Prop) (Q : D → List PO → Prop) (i : Nat) (o : Out) (G : List PO) : Prop := match o with
  | .nx e => I (i + 1) e G
  | .ct e => I (i + 1) e G
  | .bk e => P e G
  | .rt d => Q d G
theorem Tn_nx (I : Nat → Env → List PO → Prop) (P : Env → List PO → Prop) (Q : D → List PO → Prop) (i : Nat) (e : Env) (G : List PO) : Tn I P Q i (.nx e) G = I (i + 1) e G := (rfl)
theorem Tn_ct (I : Nat → Env → List PO → Prop) (P : Env → List PO → Prop) (Q : D → List PO → Prop) (i : Nat) (e : Env) (G : List PO) : Tn I P Q i (.ct e) G = I (i + 1) e G := (rfl)
theorem Tn_bk (I : Nat → Env → List PO → Prop) (P : Env → List PO → Prop) (Q : D → List PO → Prop) (i : Nat) (e : Env) (G : List PO) : Tn I P Q i (.bk e) G = P e G := (rfl)
theorem Tn_rt (I : Nat → Env → List PO → Prop) (P : Env → List PO → Prop) (Q : D → List PO → Prop) (i : Nat) (d : D) (G : List PO) : Tn I P Q i (.rt d) G = Q d G := (rfl)
theorem for_bind {β : Type} {src : Src} {body : D → Env → List PO → R Out} {xs : List D} {env : Env} {G : List PO} {k : Out → List PO → R β} {Q : β → List PO → Prop} (I : Nat → Env → List PO → Prop) (P : Env → List PO → Prop) (Q0 : D → List PO → Prop)
    (hx : xs = src.2) (h0 : I 0 env G) (ok : ∀ i env G, i ≤ xs.length → I i env G → src.Ok G)
    (turn : ∀ i x env G, xs[i]? = some x → I i env G → Res (body x env G) (Tn I P Q0 i))
    (hk : ∀ e G', I xs.length e G' → Res (k (.nx e) G') Q) (hb : ∀ e G', P e G' → Res (k (.nx e) G') Q) (hr : ∀ d G', Q0 d G' → Res (k (.rt d) G') Q) : Res ((forL src body xs env G).bind k) Q := by
  subst hx
  obtain ⟨o, G', e, h⟩ := forL_rule I P Q0 ok (fun i x env G h1 h2 => by
    obtain ⟨o, G', e, h⟩ := (turn i x env G h1 h2).ex
    refine ⟨o, G', e, ?_⟩
    cases o <;> exact h) env G h0
  rw [e]
  simp only [R.bind_ok]
  cases o with
  | nx e1 => exact h.elim (hk e1 G') (hb e1 G')
  | rt d => exact hr d G' h
  | bk e1 => exact h.elim
  | ct e1 => exact h.elim
/-- a loop that neither breaks nor returns -/
theorem for_thru {β : Type} {src : Src} {body : D → Env → List PO → R Out} {xs : List D} {env : Env} {G : List PO} {k : Out → List PO → R β} {Q : β → List PO → Prop} (I : Nat → Env → List PO → Prop)
    (hx : xs = src.2) (h0 : I 0 env G) (ok : ∀ i env G, i ≤ xs.length → I i env G → src.Ok G)
    (turn : ∀ i x env G, xs[i]? = some x → I i env G → Res (body x env G) (Tn I (fun _ _ => False) (fun _ _ => False) i))
    (hk : ∀ e G', I xs.length e G' → Res (k (.nx e) G') Q) : Res ((forL src body xs env G).bind k) Q :=
  for_bind I (fun _ _ => False) (fun _ _ => False) hx h0 ok turn hk (fun _ _ h => h.elim) fun _ _ h => h.elim
theorem lc_bind {β : Type} {ρ : Nat → Den} {γ : Nat → D} {elt : IE} {tg : IT} {ifs : IEs} {own : List Nat} {env : Env} {src : Src} {G : List PO} {k : D → List PO → R β} {Q : β → List PO → Prop} (f : D → Option D) (I : List PO → Prop)
    (hl : src.2.length ≤ sizeLine) (h0 : I G) (ok : ∀ G, I G → src.Ok G) (step : ∀ x G, x ∈ src.2 → I G → Res (turnK ρ γ elt tg ifs own env x G) fun o G' => o = f x ∧ I G')
    (hk : ∀ G', I G' → Res (k (.obj G'.length) (G' ++ [.lst (src.2.filterMap f)])) Q) : Res ((kLc ρ γ elt tg ifs own env src G).bind k) Q := by
  obtain ⟨G2, e, h2⟩ := lcL_rule (turn := turnK ρ γ elt tg ifs own env) f I ok (fun x G hx hI => by
    obtain ⟨o, G', e, rfl, h⟩ := (step x G hx hI).ex
    exact ⟨G', e, h⟩) G h0
  rw [kLc_app _ _ _ _ _ _ _ _ _ _ _ hl e]
  simp only [R.bind_ok]
  exact hk G2 h2
theorem while_bind {β : Type} {test : Env → List PO → R Bool} {body : Env → List PO → R Out} {env : Env} {G : List PO} {k : Out → List PO → R β} {Q : β → List PO → Prop} (m : Nat) (I : Nat → Env → List PO → Prop) (P : Env → List PO → Prop) (Q0 : D → List PO → Prop)
    (hm : m < 1000000) (h0 : I m env G)
    (turn : ∀ m env G, I m env G → Res (test env G) fun b G1 => (b = false → P env G1) ∧ (b = true → Res (body env G1) (Tn (fun _ e G => ∃ m', m' < m ∧ I m' e G) P Q0 0)))
    (hb : ∀ e G', P e G' → Res (k (.nx e) G') Q) (hr : ∀ d G', Q0 d G' → Res (k (.rt d) G') Q) : Res ((whileL test body fuel env G).bind k) Q := by
  obtain ⟨o, G', e, h⟩ := whileL_rule I P Q0 (fun m env G hI => by
    obtain ⟨b, G1, e, h1, h2⟩ := (turn m env G hI).ex
    refine ⟨b, G1, e, ?_⟩
    cases b with
    | false => exact h1 rfl
    | true =>
      obtain ⟨o, G2, e2, h3⟩ := (h2 rfl).ex
      refine ⟨o, G2, e2, ?_⟩
      cases o <;> exact h3) fuel m env G hm h0
  rw [e]
  simp only [R.bind_ok]
  cases o with
  | nx e1 => exact hb e1 G' h
  | rt d => exact hr d G' h
  | bk e1 => exact h.elim
  | ct e1 => exact h.elim
theorem rngF_get {lo hi : Int} {i : Nat} {x : D} (h : (rngF lo hi)[i]? = some x) : x = .int (lo + i) ∧ lo + i < hi := by
  unfold rngF at h
  have hl := (List.getElem?_eq_some_iff.mp h).1
  have hi' : i < (hi - lo).toNat := by simpa using hl
  rw [List.getElem?_map, List.getElem?_range hi'] at h
  cases h
  exact ⟨rfl, by omega⟩
theorem rngF_len (lo hi : Int) : (rngF lo hi).length = (hi - lo).toNat := by unfold rngF; simp
end Pv
end SPvP
section SPvQ
set_option Elab.async false
set_option linter.all false
set_option maxRecDepth 100000
namespace Pv
open PySem L2
theorem sl3 : 3 ≤ sizeLine := by decide
end Pv
end SPvQ
section SPvN
set_option Elab.async false
set_option linter.all false
set_option maxRecDepth 100000
/-! Fractions and numbers of choices, in plain Lean. -/
namespace Pv
open PySem L2

/-! ### numbers of choices -/
def ch : Nat → Nat → Nat
  | _, 0 => 1
  | 0, _ + 1 => 0
  | n + 1, k + 1 => ch n k + ch n (k + 1)
theorem ch_zero (n : Nat) : ch n 0 = 1 := by cases n <;> rfl
theorem ch_succ (n k : Nat) : ch (n + 1) (k + 1) = ch n k + ch n (k + 1) := (rfl)
theorem ch_mul : ∀ (n k : Nat), ((k : Int) + 1) * (ch n (k + 1) : Int) = (ch n k : Int) * ((n : Int) - (k : Int))
  | 0, 0 => by decide
  | 0, k + 1 => by
    have h1 : ch 0 (k + 1 + 1) = 0 := (rfl)
    have h2 : ch 0 (k + 1) = 0 := (rfl)
    rw [h1, h2]; simp
  | n + 1, 0 => by
    have ih := ch_mul n 0
    rw [ch_succ, ch_zero, ch_zero]
    rw [ch_zero] at ih
    push_cast at ih ⊢
    omega
  | n + 1, j + 1 => by
    have ih1 := ch_mul n j
    have ih2 := ch_mul n (j + 1)
    rw [ch_succ, ch_succ]
    push_cast at ih1 ih2 ⊢
    grind
theorem ch_above : ∀ {n k : Nat}, n < k → ch n k = 0
  | n, 0, h => by omega
  | 0, k + 1, _ => rfl
  | n + 1, k + 1, h => by rw [ch_succ, ch_above (by omega), ch_above (by omega)]
theorem ch_pos : ∀ {n k : Nat}, k ≤ n → 0 < ch n k
  | n, 0, _ => by rw [ch_zero]; decide
  | 0, k + 1, h => by omega
  | n + 1, k + 1, h => by
    have := ch_pos (n := n) (k := k) (by omega)
    rw [ch_succ]; omega
theorem ch_le : ∀ (n k : Nat), ch n k ≤ 2 ^ n
  | n, 0 => by rw [ch_zero]; exact Nat.one_le_two_pow
  | 0, k + 1 => Nat.zero_le _
  | n + 1, k + 1 => by
    have h1 := ch_le n k
    have h2 := ch_le n (k + 1)
    rw [ch_succ, Nat.pow_succ]; omega
theorem ch_lt (n k : Nat) : ch n k < 2 ^ (n + 1) := by
  have := ch_le n k
  have : 0 < 2 ^ n := Nat.two_pow_pos n
  rw [Nat.pow_succ]; omega
def fact : Nat → Nat
  | 0 => 1
  | n + 1 => (n + 1) * fact n
theorem fact_pos : ∀ n, 0 < fact n
  | 0 => by decide
  | n + 1 => Nat.mul_pos (by omega) (fact_pos n)
theorem ch_fact (n : Nat) : ∀ k, k ≤ n → ch n k * fact k * fact (n - k) = fact n
  | 0, _ => by simp [ch_zero, fact]
  | k + 1, h => by
    have ih := ch_fact n k (by omega)
    have e : n - k = (n - (k + 1)) + 1 := by omega
    have m := ch_mul n k
    have m2 : (k + 1) * ch n (k + 1) = ch n k * (n - k) := by
      have : ((k + 1) * ch n (k + 1) : Int) = (ch n k * (n - k : Nat) : Nat) := by
        push_cast
        rw [Int.natCast_sub (by omega)]
        exact m
      exact_mod_cast this
    rw [e] at ih m2
    rw [show fact (n - (k + 1) + 1) = (n - (k + 1) + 1) * fact (n - (k + 1)) from rfl] at ih
    rw [show fact (k + 1) = (k + 1) * fact k from rfl]
    rw [← ih]
    calc ch n (k + 1) * ((k + 1) * fact k) * fact (n - (k + 1)) = ((k + 1) * ch n (k + 1)) * fact k * fact (n - (k + 1)) := by grind
      _ = (ch n k * (n - (k + 1) + 1)) * fact k * fact (n - (k + 1)) := by rw [m2]
      _ = _ := by grind
theorem ch_symm {n k : Nat} (h : k ≤ n) : ch n (n - k) = ch n k := by
  have a := ch_fact n k h
  have b := ch_fact n (n - k) (by omega)
  rw [show n - (n - k) = k by omega] at b
  have p := Nat.mul_pos (fact_pos k) (fact_pos (n - k))
  refine Nat.eq_of_mul_eq_mul_right p ?_
  calc ch n (n - k) * (fact k * fact (n - k)) = ch n (n - k) * fact (n - k) * fact k := by grind
    _ = ch n k * fact k * fact (n - k) := by rw [a, b]
    _ = _ := by grind
/-- choosing f1, then f2 of the rest, is choosing both and then f1 of these -/
theorem ch_tri {b f1 f2 : Nat} (h : f1 + f2 ≤ b) : ch b f1 * ch (b - f1) f2 = ch b (f1 + f2) * ch (f1 + f2) f1 := by
  have a := ch_fact b f1 (by omega)
  have c := ch_fact (b - f1) f2 (by omega)
  have d := ch_fact b (f1 + f2) h
  have e := ch_fact (f1 + f2) f1 (by omega)
  rw [show b - f1 - f2 = b - (f1 + f2) by omega] at c
  rw [show f1 + f2 - f1 = f2 by omega] at e
  have p := Nat.mul_pos (Nat.mul_pos (fact_pos f1) (fact_pos f2)) (fact_pos (b - (f1 + f2)))
  refine Nat.eq_of_mul_eq_mul_right p ?_
  calc ch b f1 * ch (b - f1) f2 * (fact f1 * fact f2 * fact (b - (f1 + f2))) = ch b f1 * fact f1 * (ch (b - f1) f2 * fact f2 * fact (b - (f1 + f2))) := by grind
    _ = fact b := by rw [c, a]
    _ = ch b (f1 + f2) * (ch (f1 + f2) f1 * fact f1 * fact f2) * fact (b - (f1 + f2)) := by rw [e, d]
    _ = _ := by grind
theorem fp_ch (n : Nat) : ∀ k : Nat, Builtin.Math.fallingProduct (n : Int) k = (ch n k * fact k : Nat)
  | 0 => by rw [PySem.W.mc_fp_zero, ch_zero]; rfl
  | k + 1 => by
    rw [PySem.W.mc_fp_succ, fp_ch n k]
    have m := ch_mul n k
    rw [show fact (k + 1) = (k + 1) * fact k from rfl]
    push_cast
    calc (ch n k : Int) * (fact k : Int) * ((n : Int) - (k : Int)) = ((ch n k : Int) * ((n : Int) - (k : Int))) * (fact k : Int) := by grind
      _ = (((k : Int) + 1) * (ch n (k + 1) : Int)) * (fact k : Int) := by rw [m]
      _ = _ := by grind
theorem ch_self (n : Nat) : ch n n = 1 := by
  have := ch_symm (n := n) (k := 0) (by omega)
  rw [Nat.sub_zero, ch_zero] at this
  exact this
theorem mcComb_ch (n k : Nat) : PySem.W.mcComb (n : Int) (k : Int) = (ch n k : Int) := by
  by_cases h : k ≤ n
  · have gen : ∀ m : Nat, m ≤ n → min (k : Int) ((n : Int) - (k : Int)) = (m : Int) → PySem.W.mcComb (n : Int) (k : Int) = (ch n m : Int) := by
      intro m hm e
      rw [PySem.W.mcComb_at (by omega) (by omega) e, Int.toNat_natCast, fp_ch, fp_ch, ch_self, Nat.one_mul]
      push_cast
      exact Int.mul_ediv_cancel _ (by have := fact_pos m; omega)
    by_cases h2 : k ≤ n - k
    · exact gen k h (by omega)
    · rw [gen (n - k) (by omega) (by omega), ch_symm h]
  · rw [PySem.W.mcComb_above (by omega), ch_above (by omega)]; rfl

/-! ### fractions -/
/-- a fraction in lowest terms, as the program writes it -/
def fr (x : Rat) : D := .tup [.int x.num, .int (x.den : Int)]
theorem gcd_i (p q : Int) : q.gcd p = Nat.gcd p.natAbs q.natAbs := by unfold Int.gcd; exact Nat.gcd_comm _ _
theorem fr_num {p q : Int} (h : 0 < q) : (Rat.divInt p q).num = p / (Nat.gcd p.natAbs q.natAbs : Nat) := by
  rw [Rat.num_divInt, gcd_i, Int.sign_eq_one_of_pos h, Int.one_mul]
theorem fr_den {p q : Int} (h : 0 < q) : ((Rat.divInt p q).den : Int) = q / (Nat.gcd p.natAbs q.natAbs : Nat) := by
  rw [Rat.den_divInt, gcd_i, if_neg (by omega), Int.natCast_ediv]
  congr 1
  omega
theorem fr_eq {p q : Int} (h : 0 < q) : D.tup [.int (p / (Nat.gcd p.natAbs q.natAbs : Nat)), .int (q / (Nat.gcd p.natAbs q.natAbs : Nat))] = fr (Rat.divInt p q) := by
  unfold fr
  rw [fr_num h, fr_den h]
theorem num_le {p q : Int} (h : 0 < q) : (Rat.divInt p q).num.natAbs ≤ p.natAbs := by
  rw [fr_num h]
  rw [Int.natAbs_ediv_of_dvd]
  · exact Nat.div_le_self _ _
  · exact Int.ofNat_dvd_left.mpr (Nat.gcd_dvd_left _ _)
theorem den_le {p q : Int} (h : 0 < q) : ((Rat.divInt p q).den : Int) ≤ q := by
  rw [fr_den h]
  exact Int.ediv_le_self _ (by omega)
/-- x is p / q with bounded p and q -/
theorem rat_den_pos (x : Rat) : (0 : Int) < (x.den : Int) := by
  have := x.den_nz
  omega
theorem ixF_fr0 (x : Rat) (G : List PO) : ixF (fr x) (.int 0) G = .ok (.int x.num) G := (rfl)
theorem ixF_fr1 (x : Rat) (G : List PO) : ixF (fr x) (.int 1) G = .ok (.int (x.den : Int)) G := (rfl)
theorem rat_add (x y : Rat) : x + y = Rat.divInt (x.num * (y.den : Int) + y.num * (x.den : Int)) ((x.den : Int) * (y.den : Int)) := by
  have hx := rat_den_pos x
  have hy := rat_den_pos y
  conv => lhs; rw [← Rat.num_divInt_den x, ← Rat.num_divInt_den y]
  exact Rat.divInt_add_divInt _ _ (by omega) (by omega)
theorem rat_mul (x y : Rat) : x * y = Rat.divInt (x.num * y.num) ((x.den : Int) * (y.den : Int)) := by
  conv => lhs; rw [← Rat.num_divInt_den x, ← Rat.num_divInt_den y]
  exact Rat.divInt_mul_divInt _ _
theorem rat_eq {p q p' q' : Int} (h : 0 < q) (h' : 0 < q') (e : p * q' = p' * q) : Rat.divInt p q = Rat.divInt p' q' := (Rat.divInt_eq_divInt_iff (by omega) (by omega)).mpr e
/-- below 2 ^ k -/
def Bd (k : Nat) (i : Int) : Prop := i.natAbs < 2 ^ k
theorem Bd.mul {i j : Int} {a b c : Nat} (ha : Bd a i) (hb : Bd b j) (h : a + b ≤ c) : Bd c (i * j) := Nat.lt_of_lt_of_le (wide_lt ha hb) (Nat.pow_le_pow_right (by omega) h)
theorem Bd.add {i j : Int} {a b c : Nat} (ha : Bd a i) (hb : Bd b j) (h1 : a < c) (h2 : b < c) : Bd c (i + j) := by
  unfold Bd at *
  have e1 : 2 ^ a ≤ 2 ^ (c - 1) := Nat.pow_le_pow_right (by omega) (by omega)
  have e2 : 2 ^ b ≤ 2 ^ (c - 1) := Nat.pow_le_pow_right (by omega) (by omega)
  have e3 : 2 ^ c = 2 ^ (c - 1) + 2 ^ (c - 1) := by
    rw [show c = (c - 1) + 1 by omega, Nat.pow_succ]; simp; omega
  omega
theorem Bd.up {i : Int} {a b : Nat} (h : Bd a i) (hab : a ≤ b) : Bd b i := Nat.lt_of_lt_of_le h (Nat.pow_le_pow_right (by omega) hab)
theorem Bd.le {i j : Int} {a : Nat} (h : Bd a j) (h0 : i.natAbs ≤ j.natAbs) : Bd a i := Nat.lt_of_le_of_lt h0 h
theorem Bd.of {i : Int} {a : Nat} (h0 : 0 ≤ i) (n : Nat) (hn : n < 2 ^ a) (h : i ≤ (n : Int)) : Bd a i := Nat.lt_of_le_of_lt (show i.natAbs ≤ n by omega) hn
/-- both parts of x are below 2 ^ k -/
structure Sz (k : Nat) (x : Rat) : Prop where
  num : Bd k x.num
  den : Bd k (x.den : Int)
theorem Sz.of {k : Nat} {p q : Int} (h : 0 < q) (hp : Bd k p) (hq : Bd k q) : Sz k (Rat.divInt p q) := ⟨hp.le (num_le h), hq.le (by
  have h1 := den_le (p := p) h
  have h2 := rat_den_pos (Rat.divInt p q)
  omega)⟩
theorem mulA {i j : Int} {a b : Nat} (ha : Bd a i) (hb : Bd b j) (h0 : 0 < a) (h1 : 0 < b) (h : a + b ≤ 1000000) : CMulA i j := .inr (wide_mul ha hb h0 h1 h)
theorem mulS {i j : Int} (h : -(2 ^ 64) < i ∧ i < 2 ^ 64) : CMulA i j := .inl (.inl h)
theorem mulS' {i j : Int} (h : -(2 ^ 64) < j ∧ j < 2 ^ 64) : CMulA i j := .inl (.inr h)
theorem divW {i j : Int} (h : 0 < j) (hb : Bd 8999 j) : CDivW i j := wide_div (b := 8999) h hb (by omega) (by omega)
theorem gcd_pos {p q : Int} (h : 0 < q) : (0 : Int) < (Nat.gcd p.natAbs q.natAbs : Nat) := by
  have := Nat.gcd_pos_of_pos_right p.natAbs (show 0 < q.natAbs by omega)
  omega
theorem gcd_le {p q : Int} (h : 0 < q) : ((Nat.gcd p.natAbs q.natAbs : Nat) : Int) ≤ q := by
  have := Nat.gcd_le_right p.natAbs (show 0 < q.natAbs by omega)
  omega
theorem Bd.gcd {p q : Int} {k : Nat} (h : 0 < q) (hb : Bd k q) : Bd k ((Nat.gcd p.natAbs q.natAbs : Nat) : Int) := hb.le (by
  have h1 := gcd_le (p := p) h
  have h2 := gcd_pos (p := p) h
  omega)
end Pv
end SPvN
section SPvS
set_option Elab.async false
set_option linter.all false
set_option maxRecDepth 100000
namespace Pv
open PySem L2
theorem wipeE_nil (env : Env) : wipeE env [] = env := (rfl)
theorem wipeE_cons (env : Env) (v : Nat) (vs : List Nat) : wipeE env (v :: vs) = (wipeE env vs).set v none := (rfl)
theorem kEnd_lam (e : Env) (G : List PO) : kEnv e () G = .ok e G := (rfl)
theorem kEq {α : Type} {r : R α} {a : α} {G : List PO} {Q : α → List PO → Prop} (h : r = .ok a G) (q : Q a G) : Res r Q := ⟨a, G, h, q⟩
theorem fr_nat (c : Nat) : fr ((c : Nat) : Rat) = .tup [.int (c : Int), .int 1] := (rfl)
theorem divInt_add' (a b B : Int) (h : 0 < B) : Rat.divInt a B + Rat.divInt b B = Rat.divInt (a + b) B := by
  rw [Rat.divInt_add_divInt _ _ (by omega) (by omega)]
  exact rat_eq (Int.mul_pos h h) h (by grind)
theorem divInt_mul' (a B : Int) (c : Nat) : Rat.divInt a B * ((c : Nat) : Rat) = Rat.divInt (a * c) B := by
  have e : ((c : Nat) : Rat) = Rat.divInt (c : Int) 1 := (Rat.num_divInt_den ((c : Nat) : Rat)).symm
  rw [e, Rat.divInt_mul_divInt, Int.mul_one]
theorem divInt_zero' (B : Int) : Rat.divInt 0 B = 0 := by simp
/-- quotient of fractions over one bottom -/
theorem divInt_over (a b B : Int) (hB : 0 < B) (hb : 0 < b) : Rat.divInt ((Rat.divInt a B).num * ((Rat.divInt b B).den : Int)) (((Rat.divInt a B).den : Int) * (Rat.divInt b B).num) = Rat.divInt a b := by
  have e1 : Rat.divInt a B = Rat.divInt (Rat.divInt a B).num ((Rat.divInt a B).den : Int) := (Rat.num_divInt_den _).symm
  have e2 : Rat.divInt b B = Rat.divInt (Rat.divInt b B).num ((Rat.divInt b B).den : Int) := (Rat.num_divInt_den _).symm
  have d1 := rat_den_pos (Rat.divInt a B)
  have d2 := rat_den_pos (Rat.divInt b B)
  have f1 := (Rat.divInt_eq_divInt_iff (by omega) (by omega)).mp e1
  have f2 := (Rat.divInt_eq_divInt_iff (by omega) (by omega)).mp e2
  generalize (Rat.divInt a B).num = p at *
  generalize ((Rat.divInt a B).den : Int) = q at *
  generalize (Rat.divInt b B).num = u at *
  generalize ((Rat.divInt b B).den : Int) = v at *
  have hu : 0 < u := by
    have : 0 < u * B := by rw [← f2]; exact Int.mul_pos hb d2
    exact Int.pos_of_mul_pos_left this (by omega)
  refine rat_eq (Int.mul_pos d1 hu) hb ?_
  have : (p * v * b) * B = (a * (q * u)) * B := by
    calc (p * v * b) * B = (p * B) * (b * v) := by grind
      _ = (a * q) * (u * B) := by rw [← f1, f2]
      _ = _ := by grind
  exact Int.eq_of_mul_eq_mul_right (by omega) this
theorem num_pos {p q : Int} (h : 0 < q) (hp : 0 < p) : 0 < (Rat.divInt p q).num := by
  rw [fr_num h]
  refine Int.ediv_pos_of_pos_of_dvd hp (by omega) ?_
  exact Int.ofNat_dvd_left.mpr (Nat.gcd_dvd_left _ _)
theorem num_zero (q : Int) : (Rat.divInt 0 q).num = 0 := by simp
theorem num_nonneg {p q : Int} (h : 0 < q) (hp : 0 ≤ p) : 0 ≤ (Rat.divInt p q).num := by
  rcases Int.lt_or_eq_of_le hp with h1 | h1
  · exact Int.le_of_lt (num_pos h h1)
  · rw [← h1, num_zero]; omega
theorem num_eq0 {p q : Int} (h : 0 < q) (hp : 0 ≤ p) : ((Rat.divInt p q).num = 0) = (p = 0) := by
  apply propext
  constructor
  · intro e
    rcases Int.lt_or_eq_of_le hp with h1 | h1
    · have := num_pos h h1; omega
    · exact h1.symm
  · intro e; rw [e, num_zero]
theorem num_gt0 {p q : Int} (h : 0 < q) (hp : 0 ≤ p) : (0 < (Rat.divInt p q).num) = (0 < p) := by
  apply propext
  have e := num_eq0 h hp
  have n := num_nonneg h hp
  constructor
  · intro h1
    rcases Int.lt_or_eq_of_le hp with h2 | h2
    · exact h2
    · rw [← h2, num_zero] at h1; omega
  · intro h1; exact num_pos h h1
end Pv
end SPvS
section SPvT
set_option Elab.async false
set_option linter.all false
set_option maxRecDepth 100000
namespace Pv
open PySem L2
theorem append_snoc (G : List PO) (l : List D) (y : D) (h : l.length < 16000000) : mthF .append (.obj G.length) [y] (G ++ [.lst l]) = .ok .non (G ++ [.lst (l ++ [y])]) := by
  rw [append_lst _ l y _ (by simp) h]
  simp
theorem mtOk_snoc (G : List PO) (l : List D) : mtOk .append (.obj G.length) (G ++ [.lst l]) = true := mtOk_lst _ l _ (by simp)
theorem len_snoc (G : List PO) (l : List D) : bltF .len [.obj G.length] (G ++ [.lst l]) = .ok (.int l.length) (G ++ [.lst l]) := len_lst _ l _ (by simp)
theorem tuple_snoc (G : List PO) (l : List D) : bltF .tuple1 [.obj G.length] (G ++ [.lst l]) = .ok (.tup l) (G ++ [.lst l]) := tuple_lst _ l _ (by simp)
theorem kVal_snoc (G : List PO) (l : List D) : kVal (.obj G.length) (G ++ [.lst l]) = .ok (some G.length, l) (G ++ [.lst l]) := kVal_obj _ l _ (by simp)
theorem slF_lst (n : Nat) (G : List PO) (l : List D) (lo hi : Option Int) (h : G[n]? = some (.lst l)) : slF (.obj n) lo hi G = .ok (.obj G.length) (G ++ [.lst (cutF l lo hi)]) := by
  unfold slF
  simp only [h]
theorem slF_snoc (G : List PO) (l : List D) (lo hi : Option Int) : slF (.obj G.length) lo hi (G ++ [.lst l]) = .ok (.obj (G ++ [PO.lst l]).length) ((G ++ [.lst l]) ++ [.lst (cutF l lo hi)]) := slF_lst _ _ _ _ _ (by simp)
theorem cutF_to (l : List D) (m : Nat) (h : m ≤ l.length) : cutF l none (some (m : Int)) = l.take m := by
  unfold cutF
  have e1 : HT.sIx l.length 0 none = 0 := (rfl)
  have e2 : HT.sIx l.length l.length (some (m : Int)) = m := by
    rw [HT.sIx_nat]
    omega
  rw [e1, e2, List.drop_zero, Nat.sub_zero]
theorem ixF_snoc0 (G : List PO) (a : D) (r : List D) : ixF (.obj G.length) (.int 0) (G ++ [.lst (a :: r)]) = .ok a (G ++ [.lst (a :: r)]) := ixF_l0 _ a r _ (by simp)
theorem ixF_snoc1 (G : List PO) (a b : D) (r : List D) : ixF (.obj G.length) (.int 1) (G ++ [.lst (a :: b :: r)]) = .ok b (G ++ [.lst (a :: b :: r)]) := ixF_l1 _ a b r _ (by simp)
def kBool (x : D) (G : List PO) : R Bool := match x with | .bl b => .ok b G | _ => .bad
theorem kBool_bl (b : Bool) (G : List PO) : kBool (.bl b) G = .ok b G := (rfl)
theorem boolR_bind (r : R D) : boolR r = r.bind kBool := by
  cases r with
  | ok x G => cases x <;> rfl
  | exc c fs G => rfl
  | bad => rfl
theorem Res.fin {α : Type} {a : α} {G : List PO} {Q : α → List PO → Prop} (h : Q a G) : Res (.ok a G) Q := ⟨a, G, rfl, h⟩
end Pv
end SPvT
section SPvJ
set_option Elab.async false
set_option linter.all false
set_option maxRecDepth 100000
set_option maxHeartbeats 4000000
/-! The jar that every law draws from. -/
namespace Pv
open PySem L2
local macro_rules | `(tactic| walk_at "pv") => `(tactic| simp only [evE_var, evE_cst, evE_glb, evE_op, evE_neg, evE_cmp, evE_chain, evE_isN, evE_notN, evE_and, evE_or, evE_not, evE_ite, evE_tup, evE_lst, evE_dct, evE_ix, evE_slc, evE_isI, evE_call, evE_blt, evE_mth, evE_lc, evO_no, evO_so, evEs_nil, evEs_cons, evK_nil, evK_cons, evA_nil, evA_cons, evI_val, evI_rng1, evI_rng2, asT_nm, asT_tp, asT_sub, asTs_nil, asTs_cons, evS_asg, evS_aug, evS_expr, evS_ret, evS_retN, evS_ifs, evS_fors, evS_whil, evS_brk, evS_cnt, evS_pass, evSs_nil, evSs_cons, kVar_some, kOp2_app, kOp1_app, kNeg_int, kCmp2_app, kCmp1_app, kCh3_t, kCh3_f, kCh2_app, kCh1_app, kIsN_app, kNotN_app, kBl_app, kAnd_t, kAnd_f, kOr_f, kOr_t, kNot_app, kIte_t, kIte_f, kTup_app, kLst_app, kDct_app, kIx2_app, kIx1_app, kSl3_app, kSl2_app, kSl1_app, kIsI_app, kCall_app, kBlt_app, kMth2_app, kMth1_app, kPart_int, kEs2_app, kEs1_app, kK3_app, kK2_str, kK2_int, kK1_app, kA_t, kA_f, kVal_tup, kVal_rol, kVal_obj, kRng1_app, kRng22_app, kRng21_app, kTs_app, kEnv_app, kSub2_app, kSub1_app, kT3_app, kT2_t, kT2_f, kT1_app, turnK_app, kNx_app, kAsg_app, kDrop_app, kRt_app, kAug2_add, kAug2_sub, kAug_some, kIf_t, kIf_f, kBody_app, bodyK_app, kFor_app, kSeq_nx, kSeq_rt, kSeq_bk, kSeq_ct, kRet_rt, kRet_nx, wTest_app, boolR_ok, okB_some, okO_some, R.bind_ok, R.bind_bad, R.bind_exc, opF_add, opF_sub, opF_mul, opF_fdiv, opF_mod, opF_pow, cmF_eq_int, cmF_ne_int, cmF_lt_int, cmF_le_int, cmF_gt_int, cmF_ge_int, cmF_eq_str, cmF_ne_str, len_tup, len_rol, len_lst, tuple_lst, list_tup, min2_int, max2_int, abs_int, int1_int, int1_bl, gcd_int, comb_int, List.getElem?_cons_zero, List.getElem?_cons_succ, List.set_cons_zero, List.set_cons_succ, List.map_cons, List.map_nil, List.cons_append, List.nil_append, List.replicate_succ, List.replicate_zero, Nat.reduceSub, List.length_cons, List.length_nil, Nat.reduceAdd, Nat.reduceLeDiff, if_true, if_false, Bool.false_eq_true, ITs.len, decide_true, decide_false, Bool.not_true, Bool.not_false, isNon, ixF_t0, ixF_t1, ixF_t2, kLoop_nx, kLoop_ct, kLoop_bk, kLoop_rt, forL_cons0, forL_nil0, Res_ok, R.bind_assoc', Tn_nx, Tn_ct, Tn_bk, Tn_rt, wipeE_nil, wipeE_cons, kLcEnd_app, and_self, append_snoc, mtOk_snoc, len_snoc, List.length_append, List.length_map, List.map_append, *])
def dJar : IDef := { np := 2, ns := 7, body := (.cons (.asg (.nm 2) (.lst .nil)) (.cons (.asg (.nm 3) (.cst (.int 17))) (.cons (.fors (.nm 4) (.rng1 (.blt .min2 (.cons (.blt .len (.cons (.var 0) .nil)) (.cons (.cst (.int 63)) .nil))))
(.cons (.asg (.nm 5) (.blt .abs (.cons (.blt .int1 (.cons (.ix (.var 0) (.var 4)) .nil)) .nil))) (.cons (.asg (.nm 3) (.op .mod (.blt .int1 (.cons (.op .add (.op .add (.op .mul (.var 3) (.cst (.int 31))) (.op .mul (.var 5) (.cst (.int 7)))) (.var 4)) .nil)) (.cst (.int 1000003)))) (.cons (.ifs (.cmp .lt (.var 5) (.op .pow (.cst (.int 10)) (.cst (.int 18))))
(.cons (.expr (.mth .append (.var 2) (.cons (.op .mod (.blt .int1 (.cons (.op .add (.op .add (.op .mul (.var 5) (.cst (.int 48271))) (.op .mul (.var 4) (.cst (.int 69621)))) (.cst (.int 11))) .nil)) (.cst (.int 1000003))) .nil))) (.cons (.expr (.mth .append (.var 2) (.cons (.op .mod (.blt .int1 (.cons (.op .add (.op .add (.op .add (.op .mul (.op .mul (.var 5) (.var 5)) (.cst (.int 7919))) (.op .mul (.var 5) (.cst (.int 104729)))) (.op .mul (.var 4) (.cst (.int 613)))) (.cst (.int 5))) .nil)) (.cst (.int 1000003))) .nil))) .nil))
(.cons (.fors (.nm 6) (.rng1 (.var 1))
(.cons (.ifs (.cmp .gt (.var 5) (.cst (.int 0)))
(.cons (.expr (.mth .append (.var 2) (.cons (.op .mod (.blt .int1 (.cons (.var 5) .nil)) (.cst (.int 1000003))) .nil))) (.cons (.asg (.nm 5) (.op .fdiv (.var 5) (.cst (.int 1000003)))) .nil))
.nil) .nil)) .nil)) .nil)))) (.cons (.fors (.nm 4) (.rng1 (.var 1))
(.cons (.asg (.nm 3) (.op .mod (.blt .int1 (.cons (.op .add (.op .add (.op .add (.op .mul (.var 3) (.var 3)) (.op .mul (.var 3) (.cst (.int 48271)))) (.op .mul (.var 4) (.cst (.int 7919)))) (.cst (.int 13))) .nil)) (.cst (.int 1000003)))) (.cons (.expr (.mth .append (.var 2) (.cons (.var 3) .nil))) .nil))) (.cons (.ret (.dct (.cons (.cst (.str "row")) (.slc (.var 2) .no (.so (.var 1))) (.cons (.cst (.str "at")) (.cst (.int 0)) .nil)))) .nil))))) }
def dTake : IDef := { np := 2, ns := 3, body := (.cons (.asg (.nm 2) (.ix (.ix (.var 0) (.cst (.str "row"))) (.op .mod (.blt .int1 (.cons (.ix (.var 0) (.cst (.str "at"))) .nil)) (.blt .len (.cons (.ix (.var 0) (.cst (.str "row"))) .nil))))) (.cons (.asg (.sub (.var 0) (.cst (.str "at"))) (.op .add (.ix (.var 0) (.cst (.str "at"))) (.cst (.int 1)))) (.cons (.ret (.op .mod (.blt .int1 (.cons (.var 2) .nil)) (.var 1))) .nil))) }
structure JarC where
  a : Nat
  r : Nat
  row : List Int
  ne : a ≠ r
  pos : ∀ x ∈ row, 0 ≤ x
  len : 0 < row.length
structure Jar (J : JarC) (G : List PO) : Prop where
  row : G[J.r]? = some (.lst (J.row.map D.int))
  at_ : ∃ k : Nat, G[J.a]? = some (.dk [(.inr "row", .obj J.r), (.inr "at", .int k)])
theorem Jar.keep {J : JarC} {S : List Nat} {G G' : List PO} (h : Jar J G) (k : Kp S G G') (h1 : J.a ∉ S) (h2 : J.r ∉ S) : Jar J G' := ⟨k.get h.row h2, let ⟨x, e⟩ := h.at_; ⟨x, k.get e h1⟩⟩
theorem take_ok (ρ : Nat → Den) (γ : Nat → D) (J : JarC) (G : List PO) (m : Int) (hm : 0 < m) (h : Jar J G) : Res (callD ρ γ dTake [.obj J.a, .int m] G) fun d G' => ∃ v : Nat, d = .int v ∧ (v : Int) < m ∧ Jar J G' ∧ Kp [J.a] G G' := by
  obtain ⟨hr, k, ha⟩ := h
  rw [callD_app _ _ _ _ _ rfl]
  have hl := J.len
  have e1 : ixF (.obj J.a) (.str "row") G = .ok (.obj J.r) G := ixF_dk _ _ _ _ _ _ ha rfl rfl
  have e2 : ixF (.obj J.a) (.str "at") G = .ok (.int k) G := ixF_dk _ _ _ _ _ _ ha rfl rfl
  have e3 := len_lst _ _ _ hr
  rw [List.length_map] at e3
  have e4 : (0 : Int) < (J.row.length : Int) := by omega
  have hk : k % J.row.length < J.row.length := Nat.mod_lt _ hl
  have e5 : ixF (.obj J.r) (.int ((k : Int) % (J.row.length : Int))) G = .ok (.int J.row[k % J.row.length]) G := by
    refine ixF_lst _ _ _ _ _ hr ?_
    rw [← Int.natCast_emod]
    exact atI_nat (by rw [List.getElem?_map, List.getElem?_eq_getElem hk]; rfl)
  have e6 : setF (.obj J.a) (.str "at") (.int ((k : Int) + 1)) G = .ok () (G.set J.a (.dk [(.inr "row", .obj J.r), (.inr "at", .int ((k : Int) + 1))])) := (setF_dk _ _ _ _ (.inr "at") _ ha rfl (by simp)).trans rfl
  have hx := J.pos _ (List.getElem_mem hk)
  have hdec : List.map some [D.obj J.a, D.int m] = [some (D.obj J.a), some (D.int m)] := (rfl)
  simp only [dTake]
  walk_at "pv"
  have hv := Int.emod_nonneg J.row[k % J.row.length] (show m ≠ 0 by omega)
  refine ⟨(J.row[k % J.row.length] % m).toNat, ?_, ?_, ⟨?_, k + 1, ?_⟩, Kp.set (by simp) _ _⟩
  · rw [Int.toNat_of_nonneg hv]
  · rw [Int.toNat_of_nonneg hv]; exact Int.emod_lt_of_pos _ hm
  · rw [List.getElem?_set_ne J.ne]; exact hr
  · rw [List.getElem?_set_self (List.getElem?_eq_some_iff.mp ha).1]; rfl

theorem ints_of : ∀ (l : List D), (∀ x ∈ l, ∃ i : Int, x = .int i ∧ 0 ≤ i) → ∃ is : List Int, l = is.map .int ∧ ∀ x ∈ is, 0 ≤ x
  | [], _ => ⟨[], rfl, fun _ h => by cases h⟩
  | x :: l, h => by
    obtain ⟨is, e, h1⟩ := ints_of l fun y hy => h y (List.mem_cons_of_mem _ hy)
    obtain ⟨i, rfl, hi⟩ := h x List.mem_cons_self
    exact ⟨i :: is, by rw [e]; rfl, fun y hy => (List.mem_cons.mp hy).elim (fun e => e ▸ hi) (h1 y)⟩
theorem jar_ok (ρ : Nat → Den) (γ : Nat → D) (ns : List Int) (G : List PO) (most : Nat) (hn : ns.length ≤ 63) (hm : 0 < most) (hm2 : most ≤ 1000) : Res (callD ρ γ dJar [.rol (ns.map D.int), .int most] G) fun d G' => ∃ J : JarC, d = .obj J.a ∧ Jar J G' ∧ Kp [] G G' ∧ J.row.length = most ∧ J.a = G.length + 2 ∧ J.r = G.length + 1 ∧ G'.length = G.length + 3 := by
  rw [callD_app _ _ _ _ _ rfl]
  have e1 : ((63 : Int) < (ns.length : Int)) = False := eq_false (by omega)
  have e2 : -(2 ^ 62) ≤ (ns.length : Int) ∧ (ns.length : Int) < 2 ^ 62 := by omega
  have e3 : -(2 ^ 62) ≤ (most : Int) ∧ (most : Int) < 2 ^ 62 := by omega
  have hp : ∀ G, opF .pow (.int 10) (.int 18) G = .ok (.int 1000000000000000000) G := fun G => (opF_pow 10 18 G ⟨by decide, by decide, by decide⟩).trans rfl
  have hdec : List.map some [D.rol (ns.map D.int), D.int most] = [some (D.rol (ns.map D.int)), some (D.int most)] := (rfl)
  have h103 : (0 : Int) < 1000003 := by decide
  have hdiv : ∀ i : Int, CDivW i 1000003 := fun i => divW (by decide) (Bd.of (by decide) (2 ^ 20) (Nat.pow_lt_pow_right (by decide) (by decide)) (by decide))
  have m31 : ∀ i : Int, CMulA i 31 := fun i => mulS' (by decide)
  have m7 : ∀ i : Int, CMulA i 7 := fun i => mulS' (by decide)
  have m48 : ∀ i : Int, CMulA i 48271 := fun i => mulS' (by decide)
  have m69 : ∀ i : Int, CMulA i 69621 := fun i => mulS' (by decide)
  have m79 : ∀ i : Int, CMulA i 7919 := fun i => mulS' (by decide)
  have m10 : ∀ i : Int, CMulA i 104729 := fun i => mulS' (by decide)
  have m61 : ∀ i : Int, CMulA i 613 := fun i => mulS' (by decide)
  simp only [dJar]
  walk_at "pv"
  refine for_thru (fun i e G1 => ∃ l seed v4 v5 v6, e = [some (.rol (ns.map D.int)), some (.int most), some (.obj G.length), some (.int seed), v4, v5, v6] ∧ G1 = G ++ [.lst l] ∧ (∀ x ∈ l, ∃ i : Int, x = .int i ∧ 0 ≤ i) ∧ l.length ≤ 1002 * i ∧ 0 ≤ seed ∧ seed < 1000003) rfl ?_ (fun _ _ _ _ _ => trivial) ?_ ?_
  · exact ⟨[], 17, none, none, none, rfl, rfl, (fun _ h => by cases h), by simp, by decide, by decide⟩
  · rintro i x e G1 hx ⟨l, seed, v4, v5, v6, rfl, rfl, hl, hlen, hs1, hs2⟩
    obtain ⟨rfl, hi⟩ := rngF_get hx
    have hi2 : i < ns.length := by omega
    have hat : ixF (.rol (ns.map D.int)) (.int (0 + (i : Int))) (G ++ [.lst l]) = .ok (.int ns[i]) (G ++ [.lst l]) := ixF_rol _ _ _ _ (by
      rw [Int.zero_add]
      exact atI_nat (by rw [List.getElem?_map, List.getElem?_eq_getElem hi2]; rfl))
    have hc : ∃ c : Int, (if ns[i] < 0 then -ns[i] else ns[i]) = c ∧ 0 ≤ c := ⟨_, rfl, by split <;> omega⟩
    obtain ⟨c, hc, hc0⟩ := hc
    have l1 : l.length < 16000000 := by omega
    have l2 : l.length + 1 < 16000000 := by omega
    by_cases hlt : c < 1000000000000000000
    · have hcc : CMulA c c := mulS' (by omega)
      have hlt' := eq_true hlt
      walk_at "pv"
      refine ⟨_, _, _, _, _, rfl, rfl, ?_, ?_, ?_, ?_⟩
      · intro x hx
        rcases List.mem_append.mp hx with hx | hx
        · rcases List.mem_append.mp hx with hx | hx
          · exact hl x hx
          · exact ⟨_, List.mem_singleton.mp hx, Int.emod_nonneg _ (by decide)⟩
        · exact ⟨_, List.mem_singleton.mp hx, Int.emod_nonneg _ (by decide)⟩
      · simp only [List.length_append, List.length_cons, List.length_nil]; omega
      · exact Int.emod_nonneg _ (by decide)
      · exact Int.emod_lt_of_pos _ (by decide)
    · have hlt' := eq_false hlt
      walk_at "pv"
      refine for_thru (fun j e G1 => ∃ l2 c2 v6, e = [some (.rol (ns.map D.int)), some (.int most), some (.obj G.length), some (.int ((seed * 31 + c * 7 + (0 + (i : Int))) % 1000003)), some (.int (0 + (i : Int))), some (.int c2), v6] ∧ G1 = G ++ [.lst l2] ∧ (∀ x ∈ l2, ∃ i : Int, x = .int i ∧ 0 ≤ i) ∧ l2.length ≤ 1002 * i + j ∧ 0 ≤ c2) rfl ?_ (fun _ _ _ _ _ => trivial) ?_ ?_
      · exact ⟨l, c, v6, rfl, rfl, hl, hlen, hc0⟩
      · rintro j x e G1 hx ⟨l2, c2, v6, rfl, rfl, hl2, hlen2, hc2⟩
        obtain ⟨rfl, hj⟩ := rngF_get hx
        have l3 : l2.length < 16000000 := by omega
        by_cases hz : 0 < c2
        · have hz' := eq_true hz
          walk_at "pv"
          refine ⟨_, _, _, rfl, rfl, ?_, ?_, ?_⟩
          · intro x hx
            rcases List.mem_append.mp hx with hx | hx
            · exact hl2 x hx
            · exact ⟨_, List.mem_singleton.mp hx, Int.emod_nonneg _ (by decide)⟩
          · simp only [List.length_append, List.length_cons, List.length_nil]; omega
          · exact Int.ediv_nonneg hc2 (by decide)
        · have hz' := eq_false hz
          walk_at "pv"
          exact ⟨_, _, _, rfl, rfl, hl2, by omega, hc2⟩
      · rintro e G1 ⟨l2, c2, v6, rfl, rfl, hl2, hlen2, hc2⟩
        rw [rngF_len] at hlen2
        walk_at "pv"
        exact ⟨_, _, _, _, _, rfl, rfl, hl2, by omega, Int.emod_nonneg _ (by decide), Int.emod_lt_of_pos _ (by decide)⟩
  · intro e G1 hI
    rw [rngF_len, show ((ns.length : Int) - 0).toNat = ns.length by omega] at hI
    obtain ⟨l, seed, v4, v5, v6, rfl, rfl, hl, hlen, hs1, hs2⟩ := hI
    walk_at "pv"
    refine for_thru (fun j e G1 => ∃ l2 seed v4, e = [some (.rol (ns.map D.int)), some (.int most), some (.obj G.length), some (.int seed), v4, v5, v6] ∧ G1 = G ++ [.lst l2] ∧ (∀ x ∈ l2, ∃ i : Int, x = .int i ∧ 0 ≤ i) ∧ l2.length ≤ 64000 + j ∧ j ≤ l2.length ∧ 0 ≤ seed ∧ seed < 1000003) rfl ?_ (fun _ _ _ _ _ => trivial) ?_ ?_
    · exact ⟨l, seed, v4, rfl, rfl, hl, by omega, by omega, hs1, hs2⟩
    · rintro j x e G1 hx ⟨l2, seed, v4, rfl, rfl, hl2, hlen2, hlen3, hs1, hs2⟩
      obtain ⟨rfl, hj⟩ := rngF_get hx
      have l3 : l2.length < 16000000 := by omega
      have hss : CMulA seed seed := mulS' (by omega)
      walk_at "pv"
      refine ⟨_, _, _, rfl, rfl, ?_, ?_, ?_, Int.emod_nonneg _ (by decide), Int.emod_lt_of_pos _ (by decide)⟩
      · intro x hx
        rcases List.mem_append.mp hx with hx | hx
        · exact hl2 x hx
        · exact ⟨_, List.mem_singleton.mp hx, Int.emod_nonneg _ (by decide)⟩
      · simp only [List.length_append, List.length_cons, List.length_nil]; omega
      · simp only [List.length_append, List.length_cons, List.length_nil]; omega
    · rintro e G1 ⟨l2, seed, v4, rfl, rfl, hl2, hlen2, hlen3, hs1, hs2⟩
      rw [rngF_len] at hlen2 hlen3
      obtain ⟨is, rfl, his⟩ := ints_of l2 hl2
      have hcut : cutF (is.map D.int) none (some (most : Int)) = (is.take most).map D.int := by
        rw [List.length_map] at hlen3
        rw [cutF_to _ _ (by rw [List.length_map]; omega), List.map_take]
      have hsl := slF_snoc G (is.map D.int) none (some (most : Int))
      rw [hcut] at hsl
      walk_at "pv"
      rw [List.length_map] at hlen3
      have ht : (is.take most).length = most := by rw [List.length_take]; omega
      refine ⟨⟨G.length + 2, G.length + 1, is.take most, by omega, fun x hx => his x (List.mem_of_mem_take hx), by omega⟩, ?_, ⟨?_, 0, ?_⟩, ?_, ht, rfl, rfl, ?_⟩
      · simp
      · simp
      · simp [setK]; decide
      · refine (Kp.push [] G [.lst (is.map D.int)]).trans ((Kp.push [] _ _).trans (Kp.push [] _ _))
      · simp
end Pv
end SPvJ
section SPvK
set_option Elab.async false
set_option linter.all false
set_option maxRecDepth 100000
set_option maxHeartbeats 4000000
/-! What the laws share: equal answers, reduced fractions, numbers of choices. -/
namespace Pv
open PySem L2
theorem isF_int_tuple (i : Int) (G : List PO) : isF (.int i) .tuple G = some false := (rfl)
theorem isF_int_str (i : Int) (G : List PO) : isF (.int i) .str G = some false := (rfl)
theorem isF_int_int (i : Int) (G : List PO) : isF (.int i) .int G = some true := (rfl)
theorem isF_int_bool (i : Int) (G : List PO) : isF (.int i) .bool G = some false := (rfl)
theorem isF_str_tuple (i : Str) (G : List PO) : isF (.str i) .tuple G = some false := (rfl)
theorem isF_str_str (i : Str) (G : List PO) : isF (.str i) .str G = some true := (rfl)
theorem isF_tup_tuple (i : List D) (G : List PO) : isF (.tup i) .tuple G = some true := (rfl)
theorem isNon_int (i : Int) : isNon (.int i) = false := (rfl)
theorem isNon_str (i : Str) : isNon (.str i) = false := (rfl)
theorem isNon_tup (i : List D) : isNon (.tup i) = false := (rfl)
theorem isNon_bl (i : Bool) : isNon (.bl i) = false := (rfl)
theorem isNon_non : isNon .non = true := (rfl)
local macro_rules | `(tactic| walk_at "pv") => `(tactic| simp only [evE_var, evE_cst, evE_glb, evE_op, evE_neg, evE_cmp, evE_chain, evE_isN, evE_notN, evE_and, evE_or, evE_not, evE_ite, evE_tup, evE_lst, evE_dct, evE_ix, evE_slc, evE_isI, evE_call, evE_blt, evE_mth, evE_lc, evO_no, evO_so, evEs_nil, evEs_cons, evK_nil, evK_cons, evA_nil, evA_cons, evI_val, evI_rng1, evI_rng2, asT_nm, asT_tp, asT_sub, asTs_nil, asTs_cons, evS_asg, evS_aug, evS_expr, evS_ret, evS_retN, evS_ifs, evS_fors, evS_whil, evS_brk, evS_cnt, evS_pass, evSs_nil, evSs_cons, kVar_some, kOp2_app, kOp1_app, kNeg_int, kCmp2_app, kCmp1_app, kCh3_t, kCh3_f, kCh2_app, kCh1_app, kIsN_app, kNotN_app, kBl_app, kAnd_t, kAnd_f, kOr_f, kOr_t, kNot_app, kIte_t, kIte_f, kTup_app, kLst_app, kDct_app, kIx2_app, kIx1_app, kSl3_app, kSl2_app, kSl1_app, kIsI_app, kCall_app, kBlt_app, kMth2_app, kMth1_app, kPart_int, kEs2_app, kEs1_app, kK3_app, kK2_str, kK2_int, kK1_app, kA_t, kA_f, kVal_tup, kVal_rol, kVal_obj, kRng1_app, kRng22_app, kRng21_app, kTs_app, kEnv_app, kSub2_app, kSub1_app, kT3_app, kT2_t, kT2_f, kT1_app, turnK_app, kNx_app, kAsg_app, kDrop_app, kRt_app, kAug2_add, kAug2_sub, kAug_some, kIf_t, kIf_f, kBody_app, bodyK_app, kFor_app, kSeq_nx, kSeq_rt, kSeq_bk, kSeq_ct, kRet_rt, kRet_nx, wTest_app, boolR_ok, okB_some, okO_some, R.bind_ok, R.bind_bad, R.bind_exc, opF_add, opF_sub, opF_mul, opF_fdiv, opF_mod, opF_pow, cmF_eq_int, cmF_ne_int, cmF_lt_int, cmF_le_int, cmF_gt_int, cmF_ge_int, cmF_eq_str, cmF_ne_str, len_tup, len_rol, len_lst, tuple_lst, list_tup, min2_int, max2_int, abs_int, int1_int, int1_bl, gcd_int, comb_int, List.getElem?_cons_zero, List.getElem?_cons_succ, List.set_cons_zero, List.set_cons_succ, List.map_cons, List.map_nil, List.cons_append, List.nil_append, List.replicate_succ, List.replicate_zero, Nat.reduceSub, List.length_cons, List.length_nil, Nat.reduceAdd, Nat.reduceLeDiff, if_true, if_false, Bool.false_eq_true, ITs.len, decide_true, decide_false, Bool.not_true, Bool.not_false, isNon, ixF_t0, ixF_t1, ixF_t2, kLoop_nx, kLoop_ct, kLoop_bk, kLoop_rt, forL_cons0, forL_nil0, Res_ok, R.bind_assoc', Tn_nx, Tn_ct, Tn_bk, Tn_rt, wipeE_nil, wipeE_cons, kLcEnd_app, and_self, append_snoc, mtOk_snoc, len_snoc, List.length_append, List.length_map, List.map_append, isF_int_tuple, isF_int_str, isF_int_int, isF_int_bool, isF_str_tuple, isF_str_str, isF_tup_tuple, isNon_int, isNon_str, isNon_tup, isNon_non, *])
def dPart : IDef := { np := 2, ns := 6, body := (.cons (.asg (.nm 2) (.blt .abs (.cons (.var 0) .nil))) (.cons (.asg (.nm 3) (.var 1)) (.cons (.fors (.nm 4) (.rng1 (.cst (.int 2000)))
(.cons (.ifs (.cmp .eq (.var 3) (.cst (.int 0)))
(.cons .brk .nil)
.nil) (.cons (.asg (.nm 5) (.op .mod (.blt .int1 (.cons (.var 2) .nil)) (.var 3))) (.cons (.asg (.nm 2) (.var 3)) (.cons (.asg (.nm 3) (.var 5)) .nil))))) (.cons (.ret (.tup (.cons (.op .fdiv (.var 0) (.var 2)) (.cons (.op .fdiv (.var 1) (.var 2)) .nil)))) .nil)))) }
def dChoose : IDef := { np := 2, ns := 4, body := (.cons (.ifs (.or (.cmp .lt (.var 1) (.cst (.int 0))) (.cmp .gt (.var 1) (.var 0)))
(.cons (.ret (.cst (.int 0))) .nil)
.nil) (.cons (.asg (.nm 2) (.cst (.int 1))) (.cons (.fors (.nm 3) (.rng1 (.blt .min2 (.cons (.var 1) (.cons (.op .sub (.var 0) (.var 1)) .nil))))
(.cons (.asg (.nm 2) (.op .fdiv (.op .mul (.var 2) (.op .sub (.var 0) (.var 3))) (.op .add (.var 3) (.cst (.int 1))))) .nil)) (.cons (.ret (.var 2)) .nil)))) }
def dSame (me : Nat) : IDef := { np := 2, ns := 3, body := (.cons (.ifs (.isN (.var 1))
(.cons (.ret (.isN (.var 0))) .nil)
.nil) (.cons (.ifs (.isI (.var 1) .tuple)
(.cons (.ifs (.or (.not (.isI (.var 0) .tuple)) (.cmp .ne (.blt .len (.cons (.var 0) .nil)) (.blt .len (.cons (.var 1) .nil))))
(.cons (.ret (.cst (.bl false))) .nil)
.nil) (.cons (.fors (.nm 2) (.rng1 (.blt .len (.cons (.var 1) .nil)))
(.cons (.ifs (.not (.call me (.cons (.ix (.var 0) (.var 2)) (.cons (.ix (.var 1) (.var 2)) .nil))))
(.cons (.ret (.cst (.bl false))) .nil)
.nil) .nil)) (.cons (.ret (.cst (.bl true))) .nil)))
.nil) (.cons (.ifs (.isI (.var 1) .str)
(.cons (.ret (.and (.isI (.var 0) .str) (.cmp .eq (.var 0) (.var 1)))) .nil)
.nil) (.cons (.ret (.and (.isI (.var 0) .int) (.and (.not (.isI (.var 0) .bool)) (.cmp .eq (.var 0) (.var 1))))) .nil)))) }
/-- answers that equal themselves -/
inductive Pl : Nat → D → Prop
  | int (k : Nat) (i : Int) : Pl k (.int i)
  | non (k : Nat) : Pl k .non
  | str (k : Nat) (s : Str) : Pl k (.str s)
  | tup (k : Nat) (xs : List D) (h : ∀ x ∈ xs, Pl k x) (hl : xs.length < 2 ^ 62) : Pl (k + 1) (.tup xs)
theorem same_ok (ρs : Nat → Nat → Den) (γ : Nat → D) (me : Nat) (hρ : ∀ n, ρs (n + 1) me = callD (ρs n) γ (dSame me)) (G : List PO) : ∀ (k n : Nat) (d : D), Pl k d → ρs (n + k + 1) me [d, d] G = .ok (.bl true) G := by
  intro k
  induction k with
  | zero =>
    intro n d h
    have e1 : ∀ i : Int, decide (i = i) = true := fun i => decide_eq_true rfl
    have e2 : ∀ i : Str, decide (i = i) = true := fun i => decide_eq_true rfl
    rw [hρ, callD_app _ _ _ _ _ rfl]
    simp only [dSame]
    cases h with
    | int i => walk_at "pv"
    | non => walk_at "pv"
    | str s => walk_at "pv"
  | succ k ih =>
    intro n d h
    have e1 : ∀ i : Int, decide (i = i) = true := fun i => decide_eq_true rfl
    have e2 : ∀ i : Str, decide (i = i) = true := fun i => decide_eq_true rfl
    rw [hρ, callD_app _ _ _ _ _ rfl]
    simp only [dSame]
    cases h with
    | int i => clear ih; walk_at "pv"
    | non => clear ih; walk_at "pv"
    | str s => clear ih; walk_at "pv"
    | tup _ xs h hl =>
      have ih' := fun x hx => ih n x (h x hx)
      clear ih
      refine Res.eq ?_
      have hr : -(2 ^ 62) ≤ (xs.length : Int) ∧ (xs.length : Int) < 2 ^ 62 := by omega
      have hdec : List.map some [D.tup xs, D.tup xs] = [some (D.tup xs), some (D.tup xs)] := (rfl)
      walk_at "pv"
      refine for_thru (fun i e G' => G' = G ∧ ∃ w, e = [some (.tup xs), some (.tup xs), w]) rfl ⟨rfl, _, rfl⟩ (fun _ _ _ _ _ => trivial) ?_ ?_
      · rintro i x e G' hx ⟨rfl, w, rfl⟩
        obtain ⟨rfl, hi⟩ := rngF_get hx
        have hi2 : i < xs.length := by omega
        have hat : ixF (.tup xs) (.int (0 + (i : Int))) G' = .ok xs[i] G' := ixF_tup _ _ _ _ (by
          rw [Int.zero_add]
          exact atI_nat (List.getElem?_eq_getElem hi2))
        have hs : ρs (n + (k + 1)) me [xs[i], xs[i]] G' = .ok (.bl true) G' := ih' _ (List.getElem_mem hi2)
        clear ih'
        walk_at "pv"
        exact ⟨by trivial, _, rfl⟩
      · rintro e G' ⟨rfl, w, rfl⟩
        walk_at "pv"
theorem choose_ok (ρ : Nat → Den) (γ : Nat → D) (G : List PO) (n k : Nat) (hn : n ≤ 100000) : callD ρ γ dChoose [.int n, .int k] G = .ok (.int (ch n k)) G := by
  rw [callD_app _ _ _ _ _ rfl]
  have e1 : ((k : Int) < 0) = False := eq_false (by omega)
  have hdec : List.map some [D.int n, D.int k] = [some (D.int n), some (D.int k)] := (rfl)
  simp only [dChoose]
  by_cases hk : n < k
  · have e2 : ((n : Int) < (k : Int)) = True := eq_true (by omega)
    have e3 : ch n k = 0 := ch_above hk
    walk_at "pv"
    rfl
  · have e2 : ((n : Int) < (k : Int)) = False := eq_false (by omega)
    obtain ⟨m, hm, hm2, hm3⟩ : ∃ m : Nat, (if (n : Int) - (k : Int) < (k : Int) then (n : Int) - (k : Int) else (k : Int)) = (m : Int) ∧ m ≤ n ∧ ch n m = ch n k := by
      by_cases h : (n : Int) - (k : Int) < (k : Int)
      · exact ⟨n - k, by rw [if_pos h]; omega, by omega, ch_symm (by omega)⟩
      · exact ⟨k, if_neg h, by omega, rfl⟩
    have hr : -(2 ^ 62) ≤ (m : Int) ∧ (m : Int) < 2 ^ 62 := by omega
    refine Res.eq ?_
    walk_at "pv"
    refine for_thru (fun i e G' => G' = G ∧ i ≤ n ∧ ∃ w, e = [some (.int n), some (.int k), some (.int (ch n i)), w]) rfl ⟨rfl, by omega, _, by rw [ch_zero]; rfl⟩ (fun _ _ _ _ _ => trivial) ?_ ?_
    · rintro i x e G' hx ⟨rfl, hin, w, rfl⟩
      obtain ⟨rfl, hi⟩ := rngF_get hx
      have c1 : CMulA (ch n i : Int) ((n : Int) - (0 + (i : Int))) := mulS' (by omega)
      have c2 : CDivW ((ch n i : Int) * ((n : Int) - (0 + (i : Int)))) (0 + (i : Int) + 1) := divW (by omega) (Bd.of (by omega) 200000 (Nat.lt_of_lt_of_le (show 200000 < 2 ^ 20 by decide) (Nat.pow_le_pow_right (by decide) (by decide))) (by omega))
      have c3 : (ch n i : Int) * ((n : Int) - (0 + (i : Int))) / (0 + (i : Int) + 1) = (ch n (i + 1) : Int) := by
        have := ch_mul n i
        rw [Int.zero_add, ← this, Int.mul_ediv_cancel_left _ (by omega)]
      walk_at "pv"
      exact ⟨by trivial, by omega, _, rfl⟩
    · intro e G' hI
      rw [rngF_len, show ((m : Int) - 0).toNat = m by omega] at hI
      obtain ⟨rfl, hin, w, rfl⟩ := hI
      walk_at "pv"
theorem euclid_step {a b P : Nat} (h : 0 < b) (hba : b ≤ a) : b * (a % b) * 2 ≤ a * b := by
  have h1 := Nat.div_add_mod a b
  have h2 := Nat.mod_lt a h
  have h3 : 1 ≤ a / b := Nat.div_pos hba h
  have h4 : b * 1 ≤ b * (a / b) := Nat.mul_le_mul_left _ h3
  have h5 : a % b * 2 ≤ a := by omega
  calc b * (a % b) * 2 = a % b * 2 * b := by grind
    _ ≤ a * b := Nat.mul_le_mul_right _ h5
theorem part_ok (ρ : Nat → Den) (γ : Nat → D) (G : List PO) (T B : Int) (hB : 0 < B) (h1 : Bd 990 T) (h2 : Bd 990 B) : callD ρ γ dPart [.int T, .int B] G = .ok (fr (Rat.divInt T B)) G := by
  rw [callD_app _ _ _ _ _ rfl]
  have hdec : List.map some [D.int T, D.int B] = [some (D.int T), some (D.int B)] := (rfl)
  have hr : -(2 ^ 62) ≤ (2000 : Int) ∧ (2000 : Int) < 2 ^ 62 := by decide
  have habs : (if T < 0 then -T else T) = (T.natAbs : Int) := by split <;> omega
  have g0 := gcd_pos (p := T) hB
  have hP : Bd 1980 ((T.natAbs * B.natAbs : Nat) : Int) := by
    have := Nat.mul_lt_mul'' h1 h2
    rw [← Nat.pow_add] at this
    exact this
  have b2 : Bd 8999 B := h2.up (by omega)
  have g1 := Bd.gcd (p := T) hB b2
  rw [← fr_eq hB]
  have d1 : CDivW T ((Nat.gcd T.natAbs B.natAbs : Nat) : Int) := divW g0 g1
  have d2 : CDivW B ((Nat.gcd T.natAbs B.natAbs : Nat) : Int) := divW g0 g1
  refine Res.eq ?_
  simp only [dPart]
  walk_at "pv"
  refine for_bind (fun i e G' => G' = G ∧ ∃ (a b : Nat) (v4 v5 : Option D), e = [some (.int T), some (.int B), some (.int a), some (.int b), v4, v5] ∧ Nat.gcd a b = Nat.gcd T.natAbs B.natAbs ∧ (i = 0 ∨ b < a) ∧ a * b * 2 ^ i ≤ 2 * (T.natAbs * B.natAbs) ∧ (i = 0 → a * b = T.natAbs * B.natAbs)) (fun e G' => G' = G ∧ ∃ v4 v5 : Option D, e = [some (.int T), some (.int B), some (.int (Nat.gcd T.natAbs B.natAbs)), some (.int 0), v4, v5]) (fun _ _ => False) rfl ?_ (fun _ _ _ _ _ => trivial) ?_ ?_ ?_ (fun _ _ h => h.elim)
  · exact ⟨rfl, T.natAbs, B.natAbs, none, none, by rw [Int.natAbs_of_nonneg (Int.le_of_lt hB)], rfl, .inl rfl, by omega, fun _ => rfl⟩
  · rintro i x e G' hx ⟨rfl, a, b, v4, v5, rfl, hg, hba, hP2, hP3⟩
    by_cases hb : b = 0
    · subst hb
      have e0 : (((0 : Nat) : Int) = 0) = True := by simp
      rw [Nat.gcd_zero_right] at hg
      clear hba hP2 hP3 hP
      walk_at "pv"
      exact ⟨by trivial, _, _, rfl⟩
    · have e0 : ((b : Int) = 0) = False := eq_false (by omega)
      have e1 : (0 : Int) < (b : Int) := by omega
      have hg' : Nat.gcd b (a % b) = Nat.gcd T.natAbs B.natAbs := by
        rw [← hg, Nat.gcd_comm a b, Nat.gcd_rec b a, Nat.gcd_comm]
      have hm : (a : Int) % (b : Int) = ((a % b : Nat) : Int) := by simp
      have hlt := Nat.mod_lt a (show 0 < b by omega)
      have hP4 : b * (a % b) * 2 ^ (i + 1) ≤ 2 * (T.natAbs * B.natAbs) := by
        by_cases hi : i = 0
        · subst hi
          have := hP3 rfl
          have h5 : b * (a % b) ≤ b * a := Nat.mul_le_mul_left _ (Nat.mod_le _ _)
          rw [Nat.mul_comm b a] at h5
          rw [Nat.zero_add, Nat.pow_one]
          omega
        · have hba' : b ≤ a := by omega
          have := Nat.mul_le_mul_right (2 ^ i) (euclid_step (P := 0) (show 0 < b by omega) hba')
          rw [Nat.pow_succ]
          refine Nat.le_trans (Nat.le_of_eq ?_) (Nat.le_trans this hP2)
          grind
      clear hba hP2 hP3 hP hg
      walk_at "pv"
      exact ⟨by trivial, b, a % b, _, _, rfl, hg', .inr hlt, hP4, fun h => by omega⟩
  · intro e G' hI
    rw [rngF_len, show ((2000 : Int) - 0).toNat = 2000 by decide] at hI
    obtain ⟨rfl, a, b, v4, v5, rfl, hg, hba, hP2, hP3⟩ := hI
    have hb : b = 0 := by
      rcases Nat.eq_zero_or_pos b with h | h
      · exact h
      · exfalso
        have hP : T.natAbs * B.natAbs < 2 ^ 1980 := hP
        have h5 : 1 * 1 ≤ a * b := Nat.mul_le_mul (by omega) h
        have h6 := Nat.mul_le_mul_right (2 ^ 2000) h5
        have h7 : 2 ^ 2000 = 2 ^ 1980 * 2 ^ 20 := by rw [← Nat.pow_add]
        have h8 : 2 ^ 20 = 1048576 := by decide
        omega
    subst hb
    rw [Nat.gcd_zero_right] at hg
    subst hg
    clear hba hP2 hP3 hP
    walk_at "pv"
  · rintro e G' ⟨rfl, v4, v5, rfl⟩
    walk_at "pv"
end Pv
end SPvK
section SK57I
set_option Elab.async false
set_option linter.all false
set_option maxRecDepth 100000
namespace K57
open PySem L2 Pv
/-- fraction(p, q): 0 p 1 q 2 shared -/
def b_fraction : ISs :=
(.cons (.ifs (.cmp .eq (.var 1) (.cst (.int 0)))
(.cons .never .nil)
.nil) (.cons (.ifs (.cmp .lt (.var 1) (.cst (.int 0)))
(.cons (.asg (.nm 0) (.neg (.var 0))) (.cons (.asg (.nm 1) (.neg (.var 1))) .nil))
.nil) (.cons (.asg (.nm 2) (.blt .gcd (.cons (.var 0) (.cons (.var 1) .nil)))) (.cons (.ret (.tup (.cons (.op .fdiv (.var 0) (.var 2)) (.cons (.op .fdiv (.var 1) (.var 2)) .nil)))) .nil))))
def d_fraction : IDef := { np := 2, ns := 3, body := b_fraction }
/-- plus(a, b): 0 a 1 b -/
def b_plus : ISs :=
(.cons (.ret (.call 0 (.cons (.op .add (.op .mul (.ix (.var 0) (.cst (.int 0))) (.ix (.var 1) (.cst (.int 1)))) (.op .mul (.ix (.var 1) (.cst (.int 0))) (.ix (.var 0) (.cst (.int 1))))) (.cons (.op .mul (.ix (.var 0) (.cst (.int 1))) (.ix (.var 1) (.cst (.int 1)))) .nil)))) .nil)
def d_plus : IDef := { np := 2, ns := 2, body := b_plus }
/-- times(a, b): 0 a 1 b -/
def b_times : ISs :=
(.cons (.ret (.call 0 (.cons (.op .mul (.ix (.var 0) (.cst (.int 0))) (.ix (.var 1) (.cst (.int 0)))) (.cons (.op .mul (.ix (.var 0) (.cst (.int 1))) (.ix (.var 1) (.cst (.int 1)))) .nil)))) .nil)
def d_times : IDef := { np := 2, ns := 2, body := b_times }
/-- over(a, b): 0 a 1 b -/
def b_over : ISs :=
(.cons (.ifs (.cmp .eq (.ix (.var 1) (.cst (.int 0))) (.cst (.int 0)))
(.cons .never .nil)
.nil) (.cons (.ret (.call 0 (.cons (.op .mul (.ix (.var 0) (.cst (.int 0))) (.ix (.var 1) (.cst (.int 1)))) (.cons (.op .mul (.ix (.var 0) (.cst (.int 1))) (.ix (.var 1) (.cst (.int 0)))) .nil)))) .nil))
def d_over : IDef := { np := 2, ns := 2, body := b_over }
/-- total(values): 0 values 1 result 2 value -/
def b_total : ISs :=
(.cons (.asg (.nm 1) (.glb 0)) (.cons (.fors (.nm 2) (.val (.var 0))
(.cons (.asg (.nm 1) (.call 1 (.cons (.var 1) (.cons (.var 2) .nil)))) .nil)) (.cons (.ret (.var 1)) .nil)))
def d_total : IDef := { np := 1, ns := 3, body := b_total }
/-- check_counts(size, rows): 0 size 1 rows 2 number 3 limit -/
def b_check_counts : ISs :=
(.cons (.ifs (.or (.cmp .lt (.var 0) (.cst (.int 1))) (.cmp .gt (.var 0) (.glb 1)))
(.cons .never .nil)
.nil) (.cons (.fors (.tp (.cons (.nm 2) (.cons (.nm 3) .nil))) (.val (.var 1))
(.cons (.ifs (.or (.cmp .lt (.var 2) (.cst (.int 0))) (.cmp .gt (.var 2) (.var 3)))
(.cons .never .nil)
.nil) .nil)) .nil))
def d_check_counts : IDef := { np := 2, ns := 4, body := b_check_counts }
/-- ways(size, bad, sample, k): 0 size 1 bad 2 sample 3 k -/
def b_ways : ISs :=
(.cons (.ret (.op .mul (.blt .comb (.cons (.var 1) (.cons (.var 3) .nil))) (.blt .comb (.cons (.op .sub (.var 0) (.var 1)) (.cons (.op .sub (.var 2) (.var 3)) .nil))))) .nil)
def d_ways : IDef := { np := 4, ns := 4, body := b_ways }
/-- posterior(size, prior, sample, found): 0 size 1 prior 2 sample 3 found 4 rows 5 whole 6 _ 7 bad 8 weight -/
def b_posterior : ISs :=
(.cons (.expr (.call 5 (.cons (.var 0) (.cons (.tup (.cons (.tup (.cons (.var 2) (.cons (.var 0) .nil))) (.cons (.tup (.cons (.var 3) (.cons (.var 2) .nil))) .nil))) .nil)))) (.cons (.asg (.nm 4) (.lc (.tup (.cons (.var 7) (.cons (.call 2 (.cons (.var 8) (.cons (.tup (.cons (.call 6 (.cons (.var 0) (.cons (.var 7) (.cons (.var 2) (.cons (.var 3) .nil))))) (.cons (.cst (.int 1)) .nil))) .nil))) .nil))) (.tp (.cons (.nm 7) (.cons (.nm 8) .nil))) (.val (.var 1)) .nil [7, 8])) (.cons (.asg (.nm 5) (.call 4 (.cons (.lc (.var 8) (.tp (.cons (.nm 6) (.cons (.nm 8) .nil))) (.val (.var 4)) .nil [6, 8]) .nil))) (.cons (.ifs (.cmp .eq (.ix (.var 5) (.cst (.int 0))) (.cst (.int 0)))
(.cons (.ret (.cst .non)) .nil)
.nil) (.cons (.ret (.blt .tuple1 (.cons (.lc (.tup (.cons (.var 7) (.cons (.call 3 (.cons (.var 8) (.cons (.var 5) .nil))) .nil))) (.tp (.cons (.nm 7) (.cons (.nm 8) .nil))) (.val (.var 4)) (.cons (.cmp .gt (.ix (.var 8) (.cst (.int 0))) (.cst (.int 0))) .nil) [7, 8]) .nil))) .nil)))))
def d_posterior : IDef := { np := 4, ns := 9, body := b_posterior }
/-- _law_jar(script, most): 0 script 1 most 2 found 3 seed 4 k 5 cell 6 step -/
def b_law_jar : ISs :=
(.cons (.asg (.nm 2) (.lst .nil)) (.cons (.asg (.nm 3) (.cst (.int 17))) (.cons (.fors (.nm 4) (.rng1 (.blt .min2 (.cons (.blt .len (.cons (.var 0) .nil)) (.cons (.cst (.int 63)) .nil))))
(.cons (.asg (.nm 5) (.blt .abs (.cons (.blt .int1 (.cons (.ix (.var 0) (.var 4)) .nil)) .nil))) (.cons (.asg (.nm 3) (.op .mod (.blt .int1 (.cons (.op .add (.op .add (.op .mul (.var 3) (.cst (.int 31))) (.op .mul (.var 5) (.cst (.int 7)))) (.var 4)) .nil)) (.cst (.int 1000003)))) (.cons (.ifs (.cmp .lt (.var 5) (.op .pow (.cst (.int 10)) (.cst (.int 18))))
(.cons (.expr (.mth .append (.var 2) (.cons (.op .mod (.blt .int1 (.cons (.op .add (.op .add (.op .mul (.var 5) (.cst (.int 48271))) (.op .mul (.var 4) (.cst (.int 69621)))) (.cst (.int 11))) .nil)) (.cst (.int 1000003))) .nil))) (.cons (.expr (.mth .append (.var 2) (.cons (.op .mod (.blt .int1 (.cons (.op .add (.op .add (.op .add (.op .mul (.op .mul (.var 5) (.var 5)) (.cst (.int 7919))) (.op .mul (.var 5) (.cst (.int 104729)))) (.op .mul (.var 4) (.cst (.int 613)))) (.cst (.int 5))) .nil)) (.cst (.int 1000003))) .nil))) .nil))
(.cons (.fors (.nm 6) (.rng1 (.var 1))
(.cons (.ifs (.cmp .gt (.var 5) (.cst (.int 0)))
(.cons (.expr (.mth .append (.var 2) (.cons (.op .mod (.blt .int1 (.cons (.var 5) .nil)) (.cst (.int 1000003))) .nil))) (.cons (.asg (.nm 5) (.op .fdiv (.var 5) (.cst (.int 1000003)))) .nil))
.nil) .nil)) .nil)) .nil)))) (.cons (.fors (.nm 4) (.rng1 (.var 1))
(.cons (.asg (.nm 3) (.op .mod (.blt .int1 (.cons (.op .add (.op .add (.op .add (.op .mul (.var 3) (.var 3)) (.op .mul (.var 3) (.cst (.int 48271)))) (.op .mul (.var 4) (.cst (.int 7919)))) (.cst (.int 13))) .nil)) (.cst (.int 1000003)))) (.cons (.expr (.mth .append (.var 2) (.cons (.var 3) .nil))) .nil))) (.cons (.ret (.dct (.cons (.cst (.str "row")) (.slc (.var 2) .no (.so (.var 1))) (.cons (.cst (.str "at")) (.cst (.int 0)) .nil)))) .nil)))))
def d_law_jar : IDef := { np := 2, ns := 7, body := b_law_jar }
/-- _law_take(jar, many): 0 jar 1 many 2 number -/
def b_law_take : ISs :=
(.cons (.asg (.nm 2) (.ix (.ix (.var 0) (.cst (.str "row"))) (.op .mod (.blt .int1 (.cons (.ix (.var 0) (.cst (.str "at"))) .nil)) (.blt .len (.cons (.ix (.var 0) (.cst (.str "row"))) .nil))))) (.cons (.asg (.sub (.var 0) (.cst (.str "at"))) (.op .add (.ix (.var 0) (.cst (.str "at"))) (.cst (.int 1)))) (.cons (.ret (.op .mod (.blt .int1 (.cons (.var 2) .nil)) (.var 1))) .nil)))
def d_law_take : IDef := { np := 2, ns := 3, body := b_law_take }
/-- _law_part(top, bottom): 0 top 1 bottom 2 a 3 b 4 k 5 rest -/
def b_law_part : ISs :=
(.cons (.asg (.nm 2) (.blt .abs (.cons (.var 0) .nil))) (.cons (.asg (.nm 3) (.var 1)) (.cons (.fors (.nm 4) (.rng1 (.cst (.int 2000)))
(.cons (.ifs (.cmp .eq (.var 3) (.cst (.int 0)))
(.cons .brk .nil)
.nil) (.cons (.asg (.nm 5) (.op .mod (.blt .int1 (.cons (.var 2) .nil)) (.var 3))) (.cons (.asg (.nm 2) (.var 3)) (.cons (.asg (.nm 3) (.var 5)) .nil))))) (.cons (.ret (.tup (.cons (.op .fdiv (.var 0) (.var 2)) (.cons (.op .fdiv (.var 1) (.var 2)) .nil)))) .nil))))
def d_law_part : IDef := { np := 2, ns := 6, body := b_law_part }
/-- _law_same(told, due): 0 told 1 due 2 k -/
def b_law_same : ISs :=
(.cons (.ifs (.isN (.var 1))
(.cons (.ret (.isN (.var 0))) .nil)
.nil) (.cons (.ifs (.isI (.var 1) .tuple)
(.cons (.ifs (.or (.not (.isI (.var 0) .tuple)) (.cmp .ne (.blt .len (.cons (.var 0) .nil)) (.blt .len (.cons (.var 1) .nil))))
(.cons (.ret (.cst (.bl false))) .nil)
.nil) (.cons (.fors (.nm 2) (.rng1 (.blt .len (.cons (.var 1) .nil)))
(.cons (.ifs (.not (.call 11 (.cons (.ix (.var 0) (.var 2)) (.cons (.ix (.var 1) (.var 2)) .nil))))
(.cons (.ret (.cst (.bl false))) .nil)
.nil) .nil)) (.cons (.ret (.cst (.bl true))) .nil)))
.nil) (.cons (.ifs (.isI (.var 1) .str)
(.cons (.ret (.and (.isI (.var 0) .str) (.cmp .eq (.var 0) (.var 1)))) .nil)
.nil) (.cons (.ret (.and (.isI (.var 0) .int) (.and (.not (.isI (.var 0) .bool)) (.cmp .eq (.var 0) (.var 1))))) .nil))))
def d_law_same : IDef := { np := 2, ns := 3, body := b_law_same }
/-- _law_choose(n, k): 0 n 1 k 2 found 3 step -/
def b_law_choose : ISs :=
(.cons (.ifs (.or (.cmp .lt (.var 1) (.cst (.int 0))) (.cmp .gt (.var 1) (.var 0)))
(.cons (.ret (.cst (.int 0))) .nil)
.nil) (.cons (.asg (.nm 2) (.cst (.int 1))) (.cons (.fors (.nm 3) (.rng1 (.blt .min2 (.cons (.var 1) (.cons (.op .sub (.var 0) (.var 1)) .nil))))
(.cons (.asg (.nm 2) (.op .fdiv (.op .mul (.var 2) (.op .sub (.var 0) (.var 3))) (.op .add (.var 3) (.cst (.int 1))))) .nil)) (.cons (.ret (.var 2)) .nil))))
def d_law_choose : IDef := { np := 2, ns := 4, body := b_law_choose }
/-- _law_prior(jar, amount): 0 jar 1 amount 2 bad 3 tight 4 bottom 5 rows 6 k 7 top -/
def b_law_prior : ISs :=
(.cons (.asg (.nm 2) (.op .mul (.call 9 (.cons (.var 0) (.cons (.cst (.int 3)) .nil))) (.call 9 (.cons (.var 0) (.cons (.op .add (.var 1) (.cst (.int 1))) .nil))))) (.cons (.asg (.nm 2) (.op .mod (.blt .int1 (.cons (.var 2) .nil)) (.op .add (.var 1) (.cst (.int 1))))) (.cons (.asg (.nm 3) (.call 9 (.cons (.var 0) (.cons (.cst (.int 3)) .nil)))) (.cons (.asg (.nm 4) (.op .add (.cst (.int 1)) (.call 9 (.cons (.var 0) (.cons (.cst (.int 30)) .nil))))) (.cons (.asg (.nm 5) (.lst .nil)) (.cons (.fors (.nm 6) (.rng1 (.op .add (.cst (.int 1)) (.call 9 (.cons (.var 0) (.cons (.cst (.int 20)) .nil)))))
(.cons (.ifs (.cmp .gt (.var 2) (.var 1))
(.cons .brk .nil)
.nil) (.cons (.asg (.nm 7) (.op .add (.cst (.int 1)) (.call 9 (.cons (.var 0) (.cons (.cst (.int 4)) .nil))))) (.cons (.ifs (.cmp .eq (.call 9 (.cons (.var 0) (.cons (.cst (.int 5)) .nil))) (.cst (.int 0)))
(.cons (.asg (.nm 7) (.op .add (.cst (.int 1)) (.call 9 (.cons (.var 0) (.cons (.cst (.int 1000)) .nil))))) .nil)
.nil) (.cons (.expr (.mth .append (.var 5) (.cons (.tup (.cons (.var 2) (.cons (.call 10 (.cons (.var 7) (.cons (.var 4) .nil))) .nil))) .nil))) (.cons (.asg (.nm 2) (.op .add (.var 2) (.cst (.int 1)))) (.cons (.ifs (.cmp .eq (.var 3) (.cst (.int 0)))
(.cons (.asg (.nm 2) (.op .add (.var 2) (.call 9 (.cons (.var 0) (.cons (.op .add (.cst (.int 1)) (.op .fdiv (.var 1) (.cst (.int 12)))) .nil))))) .nil)
.nil) (.cons (.ifs (.and (.cmp .eq (.var 3) (.cst (.int 1))) (.cmp .eq (.call 9 (.cons (.var 0) (.cons (.cst (.int 6)) .nil))) (.cst (.int 0))))
(.cons (.asg (.nm 2) (.blt .max2 (.cons (.var 2) (.cons (.var 1) .nil)))) .nil)
.nil) .nil)))))))) (.cons (.ret (.blt .tuple1 (.cons (.var 5) .nil))) .nil)))))))
def d_law_prior : IDef := { np := 2, ns := 8, body := b_law_prior }
/-- _law_due(amount, prior, sample, found): 0 amount 1 prior 2 sample 3 found 4 whole 5 rows 6 bad 7 weight 8 many 9 row -/
def b_law_due : ISs :=
(.cons (.asg (.nm 4) (.lst (.cons (.cst (.int 0)) (.cons (.cst (.int 1)) .nil)))) (.cons (.asg (.nm 5) (.lst .nil)) (.cons (.fors (.tp (.cons (.nm 6) (.cons (.nm 7) .nil))) (.val (.var 1))
(.cons (.asg (.nm 8) (.op .mul (.call 12 (.cons (.var 6) (.cons (.var 3) .nil))) (.call 12 (.cons (.op .sub (.var 0) (.var 6)) (.cons (.op .sub (.var 2) (.var 3)) .nil))))) (.cons (.ifs (.cmp .gt (.var 8) (.cst (.int 0)))
(.cons (.expr (.mth .append (.var 5) (.cons (.tup (.cons (.var 6) (.cons (.op .mul (.ix (.var 7) (.cst (.int 0))) (.var 8)) (.cons (.ix (.var 7) (.cst (.int 1))) .nil)))) .nil))) (.cons (.asg (.nm 4) (.lst (.cons (.op .add (.op .mul (.ix (.var 4) (.cst (.int 0))) (.ix (.var 7) (.cst (.int 1)))) (.op .mul (.op .mul (.ix (.var 7) (.cst (.int 0))) (.var 8)) (.ix (.var 4) (.cst (.int 1))))) (.cons (.op .mul (.ix (.var 4) (.cst (.int 1))) (.ix (.var 7) (.cst (.int 1)))) .nil)))) (.cons (.asg (.nm 4) (.blt .list1 (.cons (.call 10 (.cons (.ix (.var 4) (.cst (.int 0))) (.cons (.ix (.var 4) (.cst (.int 1))) .nil))) .nil))) .nil)))
.nil) .nil))) (.cons (.ifs (.cmp .eq (.blt .len (.cons (.var 5) .nil)) (.cst (.int 0)))
(.cons (.ret (.cst .non)) .nil)
.nil) (.cons (.ret (.blt .tuple1 (.cons (.lc (.tup (.cons (.ix (.var 9) (.cst (.int 0))) (.cons (.call 10 (.cons (.op .mul (.ix (.var 9) (.cst (.int 1))) (.ix (.var 4) (.cst (.int 1)))) (.cons (.op .mul (.ix (.var 9) (.cst (.int 2))) (.ix (.var 4) (.cst (.int 0)))) .nil))) .nil))) (.nm 9) (.val (.var 5)) .nil [9]) .nil))) .nil)))))
def d_law_due : IDef := { np := 4, ns := 10, body := b_law_due }
/-- _law_found(jar, sample): 0 jar 1 sample 2 way -/
def b_law_found : ISs :=
(.cons (.asg (.nm 2) (.call 9 (.cons (.var 0) (.cons (.cst (.int 5)) .nil)))) (.cons (.ifs (.cmp .eq (.var 2) (.cst (.int 0)))
(.cons (.ret (.cst (.int 0))) .nil)
.nil) (.cons (.ifs (.cmp .eq (.var 2) (.cst (.int 1)))
(.cons (.ret (.var 1)) .nil)
.nil) (.cons (.ret (.call 9 (.cons (.var 0) (.cons (.op .add (.var 1) (.cst (.int 1))) .nil)))) .nil))))
def d_law_found : IDef := { np := 2, ns := 3, body := b_law_found }
/-- law(script): 0 script 1 jar 2 amount 3 prior 4 one 5 two 6 found_one 7 found_two 8 whole 9 first 10 left 11 second 12 row -/
def b_law : ISs :=
(.cons (.asg (.nm 1) (.call 8 (.cons (.var 0) (.cons (.cst (.int 140)) .nil)))) (.cons (.asg (.nm 2) (.op .add (.cst (.int 2)) (.call 9 (.cons (.var 1) (.cons (.cst (.int 18)) .nil))))) (.cons (.ifs (.cmp .eq (.call 9 (.cons (.var 1) (.cons (.cst (.int 2)) .nil))) (.cst (.int 0)))
(.cons (.asg (.nm 2) (.op .add (.cst (.int 2)) (.call 9 (.cons (.var 1) (.cons (.cst (.int 199)) .nil))))) .nil)
.nil) (.cons (.asg (.nm 3) (.call 13 (.cons (.var 1) (.cons (.var 2) .nil)))) (.cons (.asg (.nm 4) (.call 9 (.cons (.var 1) (.cons (.blt .min2 (.cons (.var 2) (.cons (.cst (.int 25)) .nil))) .nil)))) (.cons (.asg (.nm 5) (.call 9 (.cons (.var 1) (.cons (.op .add (.blt .min2 (.cons (.op .sub (.var 2) (.var 4)) (.cons (.cst (.int 25)) .nil))) (.cst (.int 1))) .nil)))) (.cons (.asg (.nm 6) (.call 15 (.cons (.var 1) (.cons (.var 4) .nil)))) (.cons (.asg (.nm 7) (.call 15 (.cons (.var 1) (.cons (.var 5) .nil)))) (.cons (.asg (.nm 8) (.call 7 (.cons (.var 2) (.cons (.var 3) (.cons (.op .add (.var 4) (.var 5)) (.cons (.op .add (.var 6) (.var 7)) .nil)))))) (.cons (.ifs (.not (.call 11 (.cons (.var 8) (.cons (.call 14 (.cons (.var 2) (.cons (.var 3) (.cons (.op .add (.var 4) (.var 5)) (.cons (.op .add (.var 6) (.var 7)) .nil))))) .nil))))
(.cons (.ret (.cst (.bl false))) .nil)
.nil) (.cons (.asg (.nm 9) (.call 7 (.cons (.var 2) (.cons (.var 3) (.cons (.var 4) (.cons (.var 6) .nil)))))) (.cons (.ifs (.not (.call 11 (.cons (.var 9) (.cons (.call 14 (.cons (.var 2) (.cons (.var 3) (.cons (.var 4) (.cons (.var 6) .nil))))) .nil))))
(.cons (.ret (.cst (.bl false))) .nil)
.nil) (.cons (.ifs (.isN (.var 9))
(.cons (.ret (.isN (.var 8))) .nil)
.nil) (.cons (.asg (.nm 10) (.blt .tuple1 (.cons (.lc (.tup (.cons (.op .sub (.ix (.var 12) (.cst (.int 0))) (.var 6)) (.cons (.ix (.var 12) (.cst (.int 1))) .nil))) (.nm 12) (.val (.var 9)) .nil [12]) .nil))) (.cons (.asg (.nm 11) (.call 7 (.cons (.op .sub (.var 2) (.var 4)) (.cons (.var 10) (.cons (.var 5) (.cons (.var 7) .nil)))))) (.cons (.ifs (.isN (.var 11))
(.cons (.ret (.isN (.var 8))) .nil)
.nil) (.cons (.ifs (.not (.isI (.var 11) .tuple))
(.cons (.ret (.cst (.bl false))) .nil)
.nil) (.cons (.ret (.call 11 (.cons (.blt .tuple1 (.cons (.lc (.tup (.cons (.op .add (.ix (.var 12) (.cst (.int 0))) (.var 6)) (.cons (.ix (.var 12) (.cst (.int 1))) .nil))) (.nm 12) (.val (.var 11)) .nil [12]) .nil)) (.cons (.var 8) .nil)))) .nil))))))))))))))))))
def d_law : IDef := { np := 1, ns := 13, body := b_law }
def irs : List IDef := [d_fraction, d_plus, d_times, d_over, d_total, d_check_counts, d_ways, d_posterior, d_law_jar, d_law_take, d_law_part, d_law_same, d_law_choose, d_law_prior, d_law_due, d_law_found, d_law]
def gls : List D := [(.tup [(.int 0), (.int 1)]), (.int 200)]
def γ (g : Nat) : D := gls.getD g .non
/-- the defs, n calls deep: 0 fraction, 1 plus, 2 times, 3 over, 4 total, 5 check_counts, 6 ways, 7 posterior, 8 _law_jar, 9 _law_take, 10 _law_part, 11 _law_same, 12 _law_choose, 13 _law_prior, 14 _law_due, 15 _law_found, 16 law -/
noncomputable abbrev T (n : Nat) : Nat → Den := tab (fun i => irs[i]?) γ n
abbrev LV : Nat := 40
end K57
end SK57I
section SK57M1
set_option Elab.async false
set_option linter.all false
set_option maxRecDepth 100000
set_option maxHeartbeats 2000000
namespace K57
open PySem L2 Pv
local macro_rules | `(tactic| walk_at "pv") => `(tactic| simp only [evE_var, evE_cst, evE_glb, evE_op, evE_neg, evE_cmp, evE_chain, evE_isN, evE_notN, evE_and, evE_or, evE_not, evE_ite, evE_tup, evE_lst, evE_dct, evE_ix, evE_slc, evE_isI, evE_call, evE_blt, evE_mth, evE_lc, evO_no, evO_so, evEs_nil, evEs_cons, evK_nil, evK_cons, evA_nil, evA_cons, evI_val, evI_rng1, evI_rng2, asT_nm, asT_tp, asT_sub, asTs_nil, asTs_cons, evS_asg, evS_aug, evS_expr, evS_ret, evS_retN, evS_ifs, evS_fors, evS_whil, evS_brk, evS_cnt, evS_pass, evSs_nil, evSs_cons, kVar_some, kOp2_app, kOp1_app, kNeg_int, kCmp2_app, kCmp1_app, kCh3_t, kCh3_f, kCh2_app, kCh1_app, kIsN_app, kNotN_app, kBl_app, kAnd_t, kAnd_f, kOr_f, kOr_t, kNot_app, kIte_t, kIte_f, kTup_app, kLst_app, kDct_app, kIx2_app, kIx1_app, kSl3_app, kSl2_app, kSl1_app, kIsI_app, kCall_app, kBlt_app, kMth2_app, kMth1_app, kPart_int, kEs2_app, kEs1_app, kK3_app, kK2_str, kK2_int, kK1_app, kA_t, kA_f, kVal_tup, kVal_rol, kVal_obj, kRng1_app, kRng22_app, kRng21_app, kTs_app, kEnv_app, kSub2_app, kSub1_app, kT3_app, kT2_t, kT2_f, kT1_app, turnK_app, kNx_app, kAsg_app, kDrop_app, kRt_app, kAug2_add, kAug2_sub, kAug_some, kIf_t, kIf_f, kBody_app, bodyK_app, kFor_app, kSeq_nx, kSeq_rt, kSeq_bk, kSeq_ct, kRet_rt, kRet_nx, wTest_app, boolR_ok, okB_some, okO_some, R.bind_ok, R.bind_bad, R.bind_exc, opF_add, opF_sub, opF_mul, opF_fdiv, opF_mod, opF_pow, cmF_eq_int, cmF_ne_int, cmF_lt_int, cmF_le_int, cmF_gt_int, cmF_ge_int, cmF_eq_str, cmF_ne_str, len_tup, len_rol, len_lst, tuple_lst, list_tup, min2_int, max2_int, abs_int, int1_int, int1_bl, gcd_int, comb_int, List.getElem?_cons_zero, List.getElem?_cons_succ, List.set_cons_zero, List.set_cons_succ, List.map_cons, List.map_nil, List.cons_append, List.nil_append, List.replicate_succ, List.replicate_zero, Nat.reduceSub, List.length_cons, List.length_nil, Nat.reduceAdd, Nat.reduceLeDiff, if_true, if_false, Bool.false_eq_true, ITs.len, decide_true, decide_false, Bool.not_true, Bool.not_false, isNon, ixF_t0, ixF_t1, ixF_t2, kLoop_nx, kLoop_ct, kLoop_bk, kLoop_rt, forL_cons0, forL_nil0, ixF_fr0, ixF_fr1, *])
theorem T_succ (n f : Nat) (d : IDef) (h : irs[f]? = some d) : T (n + 1) f = callD (T n) γ d := by
  show tab _ _ (n + 1) f = _
  unfold tab
  simp only [h]
theorem fraction_ok (n : Nat) (G : List Pv.PO) (p q : Int) (hq : 0 < q) (hb : Bd 8999 q) : T (n + 1) 0 [.int p, .int q] G = .ok (fr (Rat.divInt p q)) G := by
  rw [T_succ n 0 d_fraction rfl, callD_app _ _ _ _ _ rfl]
  have h0 : (q = 0) = False := eq_false (by omega)
  have h1 : (q < 0) = False := eq_false (by omega)
  have g0 := gcd_pos (p := p) hq
  have g1 := Bd.gcd (p := p) hq hb
  have hp : CDivW p ((Nat.gcd p.natAbs q.natAbs : Nat) : Int) := divW g0 g1
  have hp : CDivW q ((Nat.gcd p.natAbs q.natAbs : Nat) : Int) := divW g0 g1
  rw [← fr_eq hq]
  simp only [d_fraction, b_fraction]
  walk_at "pv"
theorem den_mul {x y : Rat} (hx : Sz 4000 x) (hy : Sz 4000 y) : (0 : Int) < (x.den : Int) * (y.den : Int) ∧ Bd 8999 ((x.den : Int) * (y.den : Int)) :=
  ⟨Int.mul_pos (rat_den_pos x) (rat_den_pos y), hx.den.mul hy.den (by omega)⟩
theorem plus_ok (n : Nat) (G : List Pv.PO) (x y : Rat) (hx : Sz 4000 x) (hy : Sz 4000 y) : T (n + 2) 1 [fr x, fr y] G = .ok (fr (x + y)) G := by
  rw [T_succ (n + 1) 1 d_plus rfl, callD_app _ _ _ _ _ rfl, rat_add]
  have h1 : CMulA x.num (y.den : Int) := mulA hx.num hy.den (by omega) (by omega) (by omega)
  have h2 : CMulA y.num (x.den : Int) := mulA hy.num hx.den (by omega) (by omega) (by omega)
  have h3 : CMulA (x.den : Int) (y.den : Int) := mulA hx.den hy.den (by omega) (by omega) (by omega)
  have hd := den_mul hx hy
  have hf := fun p => fraction_ok n G p _ hd.1 hd.2
  simp only [d_plus, b_plus]
  walk_at "pv"
theorem times_ok (n : Nat) (G : List Pv.PO) (x y : Rat) (hx : Sz 4000 x) (hy : Sz 4000 y) : T (n + 2) 2 [fr x, fr y] G = .ok (fr (x * y)) G := by
  rw [T_succ (n + 1) 2 d_times rfl, callD_app _ _ _ _ _ rfl, rat_mul]
  have h1 : CMulA x.num y.num := mulA hx.num hy.num (by omega) (by omega) (by omega)
  have h3 : CMulA (x.den : Int) (y.den : Int) := mulA hx.den hy.den (by omega) (by omega) (by omega)
  have hd := den_mul hx hy
  have hf := fun p => fraction_ok n G p _ hd.1 hd.2
  simp only [d_times, b_times]
  walk_at "pv"
theorem over_ok (n : Nat) (G : List Pv.PO) (x y : Rat) (hx : Sz 4000 x) (hy : Sz 4000 y) (h0 : 0 < y.num) : T (n + 2) 3 [fr x, fr y] G = .ok (fr (Rat.divInt (x.num * (y.den : Int)) ((x.den : Int) * y.num))) G := by
  rw [T_succ (n + 1) 3 d_over rfl, callD_app _ _ _ _ _ rfl]
  have h1 : CMulA x.num (y.den : Int) := mulA hx.num hy.den (by omega) (by omega) (by omega)
  have h3 : CMulA (x.den : Int) y.num := mulA hx.den hy.num (by omega) (by omega) (by omega)
  have h4 : (y.num = 0) = False := eq_false (by omega)
  have hf := fun p => fraction_ok n G p _ (Int.mul_pos (rat_den_pos x) h0) (hx.den.mul hy.num (by omega))
  simp only [d_over, b_over]
  walk_at "pv"
end K57
end SK57M1
section SK57M2
set_option Elab.async false
set_option linter.all false
set_option maxRecDepth 100000
set_option maxHeartbeats 4000000
namespace K57
open PySem L2 Pv
local macro_rules | `(tactic| walk_at "pv") => `(tactic| simp only [evE_var, evE_cst, evE_glb, evE_op, evE_neg, evE_cmp, evE_chain, evE_isN, evE_notN, evE_and, evE_or, evE_not, evE_ite, evE_tup, evE_lst, evE_dct, evE_ix, evE_slc, evE_isI, evE_call, evE_blt, evE_mth, evE_lc, evO_no, evO_so, evEs_nil, evEs_cons, evK_nil, evK_cons, evA_nil, evA_cons, evI_val, evI_rng1, evI_rng2, asT_nm, asT_tp, asT_sub, asTs_nil, asTs_cons, evS_asg, evS_aug, evS_expr, evS_ret, evS_retN, evS_ifs, evS_fors, evS_whil, evS_brk, evS_cnt, evS_pass, evSs_nil, evSs_cons, kVar_some, kOp2_app, kOp1_app, kNeg_int, kCmp2_app, kCmp1_app, kCh3_t, kCh3_f, kCh2_app, kCh1_app, kIsN_app, kNotN_app, kBl_app, kAnd_t, kAnd_f, kOr_f, kOr_t, kNot_app, kIte_t, kIte_f, kTup_app, kLst_app, kDct_app, kIx2_app, kIx1_app, kSl3_app, kSl2_app, kSl1_app, kIsI_app, kCall_app, kBlt_app, kMth2_app, kMth1_app, kPart_int, kEs2_app, kEs1_app, kK3_app, kK2_str, kK2_int, kK1_app, kA_t, kA_f, kVal_tup, kVal_rol, kVal_obj, kRng1_app, kRng22_app, kRng21_app, kTs_app, kEnv_app, kSub2_app, kSub1_app, kT3_app, kT2_t, kT2_f, kT1_app, turnK_app, kNx_app, kAsg_app, kDrop_app, kRt_app, kAug2_add, kAug2_sub, kAug_some, kIf_t, kIf_f, kBody_app, bodyK_app, kFor_app, kSeq_nx, kSeq_rt, kSeq_bk, kSeq_ct, kRet_rt, kRet_nx, wTest_app, boolR_ok, okB_some, okO_some, R.bind_ok, R.bind_bad, R.bind_exc, opF_add, opF_sub, opF_mul, opF_fdiv, opF_mod, opF_pow, cmF_eq_int, cmF_ne_int, cmF_lt_int, cmF_le_int, cmF_gt_int, cmF_ge_int, cmF_eq_str, cmF_ne_str, len_tup, len_rol, len_lst, tuple_lst, list_tup, min2_int, max2_int, abs_int, int1_int, int1_bl, gcd_int, comb_int, List.getElem?_cons_zero, List.getElem?_cons_succ, List.set_cons_zero, List.set_cons_succ, List.map_cons, List.map_nil, List.cons_append, List.nil_append, List.replicate_succ, List.replicate_zero, Nat.reduceSub, List.length_cons, List.length_nil, Nat.reduceAdd, Nat.reduceLeDiff, if_true, if_false, Bool.false_eq_true, ITs.len, decide_true, decide_false, Bool.not_true, Bool.not_false, isNon, ixF_t0, ixF_t1, ixF_t2, kLoop_nx, kLoop_ct, kLoop_bk, kLoop_rt, forL_cons0, forL_nil0, Res_ok, R.bind_assoc', Tn_nx, Tn_ct, Tn_bk, Tn_rt, ixF_fr0, ixF_fr1, wipeE_nil, wipeE_cons, kLcEnd_app, *])

def rsum (rs : List Rat) : Rat := rs.foldl (· + ·) 0
theorem rsum_snoc (rs : List Rat) (x : Rat) : rsum (rs ++ [x]) = rsum rs + x := by unfold rsum; rw [List.foldl_append]; rfl
theorem total_ok (n : Nat) (G : List Pv.PO) (o : Nat) (rs : List Rat) (hG : G[o]? = some (.lst (rs.map fr))) (h1 : ∀ r ∈ rs, Sz 4000 r) (h2 : ∀ i, i ≤ rs.length → Sz 4000 (rsum (rs.take i))) : T (n + 3) 4 [.obj o] G = .ok (fr (rsum rs)) G := by
  rw [T_succ (n + 2) 4 d_total rfl, callD_app _ _ _ _ _ rfl]
  refine Res.eq ?_
  have hv := kVal_obj o (rs.map fr) G hG
  have h0 : γ 0 = fr 0 := (rfl)
  simp only [d_total, b_total]
  walk_at "pv"
  refine for_thru (fun i e G' => G' = G ∧ ∃ w, e = [some (.obj o), some (fr (rsum (rs.take i))), w]) rfl ⟨rfl, _, rfl⟩ (fun i e G' _ h => by rw [h.1]; exact hG) ?_ ?_
  · rintro i x e G' hx ⟨rfl, w, rfl⟩
    have hx' : (rs.map fr)[i]? = some x := hx
    rw [List.getElem?_map] at hx'
    cases hr : rs[i]? with
    | none => rw [hr] at hx'; cases hx'
    | some r =>
      rw [hr] at hx'
      cases hx'
      have hi := (List.getElem?_eq_some_iff.mp hr).1
      have hm : r ∈ rs := List.mem_of_getElem? hr
      have hp := plus_ok n G' (rsum (rs.take i)) r (h2 i (by omega)) (h1 r hm)
      have ht : rsum (rs.take (i + 1)) = rsum (rs.take i) + r := by
        rw [List.take_succ, hr, Option.toList_some, rsum_snoc]
      walk_at "pv"
      exact ⟨by trivial, _, rfl⟩
  · rintro e G' ⟨rfl, w, rfl⟩
    have ht : rs.take (List.map fr rs).length = rs := by simp
    walk_at "pv"
    trivial
theorem check_ok (n : Nat) (G : List Pv.PO) (size sample found : Nat) (h1 : 1 ≤ size) (h2 : size ≤ 200) (h3 : sample ≤ size) (h4 : found ≤ sample) : T (n + 1) 5 [.int size, .tup [.tup [.int sample, .int size], .tup [.int found, .int sample]]] G = .ok .non G := by
  rw [T_succ n 5 d_check_counts rfl, callD_app _ _ _ _ _ rfl]
  have g1 : γ 1 = .int 200 := (rfl)
  have e1 : ((size : Int) < 1) = False := eq_false (by omega)
  have e2 : ((200 : Int) < (size : Int)) = False := eq_false (by omega)
  have e3 : ((sample : Int) < 0) = False := eq_false (by omega)
  have e4 : ((size : Int) < (sample : Int)) = False := eq_false (by omega)
  have e5 : ((found : Int) < 0) = False := eq_false (by omega)
  have e6 : ((sample : Int) < (found : Int)) = False := eq_false (by omega)
  simp only [d_check_counts, b_check_counts]
  walk_at "pv"
theorem cc_lt (a b c d : Nat) : ch a b * ch c d < 2 ^ (a + c + 1) := by
  have h1 := ch_le a b
  have h2 := ch_le c d
  have h3 := Nat.mul_le_mul h1 h2
  rw [← Nat.pow_add] at h3
  exact Nat.lt_of_le_of_lt h3 (Nat.pow_lt_pow_right (by omega) (by omega))
theorem Bd.nat {n k : Nat} (h : n < 2 ^ k) : Bd k (n : Int) := h
theorem ways_ok (n : Nat) (G : List Pv.PO) (size bad sample k : Nat) (h2 : size ≤ 200) (h1 : bad ≤ size) (h3 : k ≤ sample) : T (n + 1) 6 [.int size, .int bad, .int sample, .int k] G = .ok (.int ((ch bad k * ch (size - bad) (sample - k) : Nat) : Int)) G := by
  rw [T_succ n 6 d_ways rfl, callD_app _ _ _ _ _ rfl]
  have e1 : (size : Int) - (bad : Int) = ((size - bad : Nat) : Int) := by omega
  have e2 : (sample : Int) - (k : Int) = ((sample - k : Nat) : Int) := by omega
  have c1 := comb_int (bad : Int) (k : Int) G ⟨by omega, by omega, by omega⟩
  have c2 := comb_int ((size - bad : Nat) : Int) ((sample - k : Nat) : Int) G ⟨by omega, by omega, by omega⟩
  rw [mcComb_ch] at c1 c2
  have m1 : CMulA (ch bad k : Int) (ch (size - bad) (sample - k) : Int) := mulA (Bd.nat (ch_lt bad k)) (Bd.nat (ch_lt (size - bad) (sample - k))) (by omega) (by omega) (by omega)
  rw [Int.natCast_mul]
  simp only [d_ways, b_ways]
  walk_at "pv"
end K57
end SK57M2
section SK57M3
set_option Elab.async false
set_option linter.all false
set_option maxRecDepth 100000
set_option maxHeartbeats 4000000
namespace K57
open PySem L2 Pv
local macro_rules | `(tactic| walk_at "pv") => `(tactic| simp only [evE_var, evE_cst, evE_glb, evE_op, evE_neg, evE_cmp, evE_chain, evE_isN, evE_notN, evE_and, evE_or, evE_not, evE_ite, evE_tup, evE_lst, evE_dct, evE_ix, evE_slc, evE_isI, evE_call, evE_blt, evE_mth, evE_lc, evO_no, evO_so, evEs_nil, evEs_cons, evK_nil, evK_cons, evA_nil, evA_cons, evI_val, evI_rng1, evI_rng2, asT_nm, asT_tp, asT_sub, asTs_nil, asTs_cons, evS_asg, evS_aug, evS_expr, evS_ret, evS_retN, evS_ifs, evS_fors, evS_whil, evS_brk, evS_cnt, evS_pass, evSs_nil, evSs_cons, kVar_some, kOp2_app, kOp1_app, kNeg_int, kCmp2_app, kCmp1_app, kCh3_t, kCh3_f, kCh2_app, kCh1_app, kIsN_app, kNotN_app, kBl_app, kAnd_t, kAnd_f, kOr_f, kOr_t, kNot_app, kIte_t, kIte_f, kTup_app, kLst_app, kDct_app, kIx2_app, kIx1_app, kSl3_app, kSl2_app, kSl1_app, kIsI_app, kCall_app, kBlt_app, kMth2_app, kMth1_app, kPart_int, kEs2_app, kEs1_app, kK3_app, kK2_str, kK2_int, kK1_app, kA_t, kA_f, kVal_tup, kVal_rol, kVal_obj, kRng1_app, kRng22_app, kRng21_app, kTs_app, kEnv_app, kSub2_app, kSub1_app, kT3_app, kT2_t, kT2_f, kT1_app, turnK_app, kNx_app, kAsg_app, kDrop_app, kRt_app, kAug2_add, kAug2_sub, kAug_some, kIf_t, kIf_f, kBody_app, bodyK_app, kFor_app, kSeq_nx, kSeq_rt, kSeq_bk, kSeq_ct, kRet_rt, kRet_nx, wTest_app, boolR_ok, okB_some, okO_some, R.bind_ok, R.bind_bad, R.bind_exc, opF_add, opF_sub, opF_mul, opF_fdiv, opF_mod, opF_pow, cmF_eq_int, cmF_ne_int, cmF_lt_int, cmF_le_int, cmF_gt_int, cmF_ge_int, cmF_eq_str, cmF_ne_str, len_tup, len_rol, len_lst, tuple_lst, list_tup, min2_int, max2_int, abs_int, int1_int, int1_bl, gcd_int, comb_int, List.getElem?_cons_zero, List.getElem?_cons_succ, List.set_cons_zero, List.set_cons_succ, List.map_cons, List.map_nil, List.cons_append, List.nil_append, List.replicate_succ, List.replicate_zero, Nat.reduceSub, List.length_cons, List.length_nil, Nat.reduceAdd, Nat.reduceLeDiff, if_true, if_false, Bool.false_eq_true, ITs.len, decide_true, decide_false, Bool.not_true, Bool.not_false, isNon, ixF_t0, ixF_t1, ixF_t2, kLoop_nx, kLoop_ct, kLoop_bk, kLoop_rt, forL_cons0, forL_nil0, Res_ok, R.bind_assoc', Tn_nx, Tn_ct, Tn_bk, Tn_rt, ixF_fr0, ixF_fr1, wipeE_nil, wipeE_cons, kLcEnd_app, *])

abbrev Row := Nat × Nat
def wt (n s f : Nat) (r : Row) : Nat := r.2 * (ch r.1 f * ch (n - r.1) (s - f))
def tot (n s f : Nat) (rows : List Row) : Nat := (rows.map (wt n s f)).sum
def row (B : Nat) (r : Row) : D := .tup [.int r.1, fr (Rat.divInt r.2 B)]
def pst (n s f : Nat) (rows : List Row) : List Row := (rows.map fun r => (r.1, wt n s f r)).filter fun r => decide (0 < r.2)
def pstD (n s f : Nat) (rows : List Row) : D := if tot n s f rows = 0 then .non else .tup ((pst n s f rows).map (row (tot n s f rows)))
/-- what a prior must be -/
structure Pr (n : Nat) (B : Nat) (rows : List Row) : Prop where
  n2 : n ≤ 200
  pos : 0 < B
  bB : B < 2 ^ 500
  len : rows.length ≤ 20
  bad : ∀ r ∈ rows, r.1 ≤ n
  wgt : ∀ r ∈ rows, r.2 < 2 ^ 300
theorem wt_lt {n B : Nat} {rows : List Row} (h : Pr n B rows) (s f : Nat) {r : Row} (hr : r ∈ rows) : wt n s f r < 2 ^ 501 := by
  have h1 := h.wgt r hr
  have h2 := cc_lt r.1 f (n - r.1) (s - f)
  have h3 := h.bad r hr
  have h4 := h.n2
  have h5 : ch r.1 f * ch (n - r.1) (s - f) < 2 ^ 201 := Nat.lt_of_lt_of_le h2 (Nat.pow_le_pow_right (by omega) (by omega))
  have := Nat.mul_lt_mul'' h1 h5
  rw [← Nat.pow_add] at this
  exact this
theorem sum_lt : ∀ (l : List Nat) (K : Nat), (∀ x ∈ l, x < K) → l.sum ≤ l.length * K
  | [], K, _ => by simp
  | x :: l, K, h => by
    have h1 := sum_lt l K fun y hy => h y (List.mem_cons_of_mem _ hy)
    have h2 := h x List.mem_cons_self
    rw [List.sum_cons, List.length_cons, Nat.succ_mul]
    omega
theorem tot_lt {n B : Nat} {rows : List Row} (h : Pr n B rows) (s f : Nat) (i : Nat) : tot n s f (rows.take i) < 2 ^ 600 := by
  have h1 := sum_lt ((rows.take i).map (wt n s f)) (2 ^ 501) (by
    intro x hx
    obtain ⟨r, hr, rfl⟩ := List.mem_map.mp hx
    exact wt_lt h s f (List.mem_of_mem_take hr))
  have h2 : ((rows.take i).map (wt n s f)).length ≤ 20 := by
    rw [List.length_map, List.length_take]
    have := h.len
    omega
  have h3 : ((rows.take i).map (wt n s f)).length * 2 ^ 501 ≤ 20 * 2 ^ 501 := Nat.mul_le_mul_right _ h2
  refine Nat.lt_of_le_of_lt (Nat.le_trans h1 h3) ?_
  decide
theorem wt_le_tot (n s f : Nat) : ∀ (rows : List Row) {r : Row}, r ∈ rows → wt n s f r ≤ tot n s f rows
  | [], _, h => by cases h
  | x :: l, r, h => by
    have e : tot n s f (x :: l) = wt n s f x + tot n s f l := List.sum_cons
    rcases List.mem_cons.mp h with h | h
    · rw [h]; omega
    · have := wt_le_tot n s f l h
      omega
theorem sz_div {B : Nat} (h : 0 < B) (hB : B < 2 ^ 500) {m k : Nat} (hm : m < 2 ^ k) (hk : k ≤ 3000) : Sz 4000 (Rat.divInt m B) :=
  Sz.of (by omega) (Nat.lt_of_lt_of_le hm (Nat.pow_le_pow_right (by omega) (by omega))) (Nat.lt_of_lt_of_le hB (Nat.pow_le_pow_right (by omega) (by omega)))
theorem sz_nat {m k : Nat} (hm : m < 2 ^ k) (hk : k ≤ 3000) : Sz 4000 ((m : Nat) : Rat) := ⟨Nat.lt_of_lt_of_le hm (Nat.pow_le_pow_right (by omega) (by omega)), show (1 : Int).natAbs < 2 ^ 4000 from Nat.one_lt_two_pow (by omega)⟩
theorem rsum_div (B : Nat) (hB : 0 < B) (g : Row → Nat) (rows : List Row) : rsum (rows.map fun r => Rat.divInt (g r) B) = Rat.divInt ((rows.map g).sum : Nat) B := by
  have gen : ∀ (rows : List Row) (a : Nat), (rows.map fun r => Rat.divInt (g r : Int) (B : Int)).foldl (· + ·) (Rat.divInt a B) = Rat.divInt ((a + (rows.map g).sum : Nat) : Int) B := by
    intro rows
    induction rows with
    | nil => intro a; simp
    | cons r rows ih =>
      intro a
      rw [List.map_cons, List.foldl_cons, divInt_add' _ _ _ (by omega), ← Int.natCast_add, ih (a + g r), List.map_cons, List.sum_cons, Nat.add_assoc]
  have := gen rows 0
  rw [show Rat.divInt ((0 : Nat) : Int) (B : Int) = 0 from divInt_zero' _, Nat.zero_add] at this
  exact this
theorem posterior_ok (n : Nat) (G : List Pv.PO) (size B s f : Nat) (rows : List Row) (h : Pr size B rows) (h1 : 1 ≤ size) (h3 : s ≤ size) (h4 : f ≤ s) : Res (T (n + 4) 7 [.int size, .tup (rows.map (row B)), .int s, .int f] G) fun d G' => d = pstD size s f rows ∧ Kp [] G G' := by
  rw [T_succ (n + 3) 7 d_posterior rfl, callD_app _ _ _ _ _ rfl]
  have hB := h.pos
  have e0 := check_ok (n + 2) G size s f h1 h.n2 h3 h4
  simp only [d_posterior, b_posterior]
  walk_at "pv"
  refine lc_bind (fun x => match x with | .tup [.int b, .tup [.int p, .int q]] => some (.tup [.int b, fr (Rat.divInt p q * ((ch b.toNat f * ch (size - b.toNat) (s - f) : Nat) : Rat))]) | _ => none) (fun G' => G' = G) ?_ rfl (fun _ _ => trivial) ?_ ?_
  · show (rows.map (row B)).length ≤ sizeLine
    rw [List.length_map]; exact Nat.le_trans h.len (by decide)
  · rintro x G' hx rfl
    obtain ⟨r, hr, rfl⟩ := List.mem_map.mp (show x ∈ rows.map (row B) from hx)
    have hw := ways_ok (n + 2) G' size r.1 s f h.n2 (h.bad r hr) h4
    have hm := times_ok (n + 1) G' (Rat.divInt r.2 B) ((ch r.1 f * ch (size - r.1) (s - f) : Nat) : Rat) (sz_div hB h.bB (h.wgt r hr) (by omega)) (sz_nat (cc_lt _ _ _ _) (by have := h.n2; have := h.bad r hr; omega))
    rw [fr_nat] at hm
    simp only [row]
    walk_at "pv"
    refine ⟨?_, by trivial⟩
    simp only [fr, Rat.num_divInt_den, Int.toNat_natCast]
  · rintro G0 rfl
    have hL : (rows.map (row B)).filterMap (fun x => match x with | .tup [.int b, .tup [.int p, .int q]] => some (.tup [.int b, fr (Rat.divInt p q * ((ch b.toNat f * ch (size - b.toNat) (s - f) : Nat) : Rat))]) | _ => none) = rows.map fun r => row B (r.1, wt size s f r) := by
      rw [List.filterMap_map, ← List.filterMap_eq_map]
      congr 1
      funext r
      simp only [Function.comp_apply, row, fr, Rat.num_divInt_den, Int.toNat_natCast]
      rw [divInt_mul']
      rfl
    simp only [hL]
    generalize hG1 : G0 ++ [.lst (rows.map fun r => row B (r.1, wt size s f r))] = G1
    have hk1 : G1[G0.length]? = some (.lst (rows.map fun r => row B (r.1, wt size s f r))) := by rw [← hG1]; simp
    have hv1 := kVal_obj _ _ _ hk1
    have K1 : Kp [] G0 G1 := by rw [← hG1]; exact Kp.push _ _ _
    walk_at "pv"
    refine lc_bind (fun x => match x with | .tup [_, w] => some w | _ => none) (fun G' => G' = G1) ?_ rfl (fun _ hG => by rw [hG]; exact hk1) ?_ ?_
    · show (rows.map fun r => row B (r.1, wt size s f r)).length ≤ sizeLine
      rw [List.length_map]; exact Nat.le_trans h.len (by decide)
    · rintro x G' hx rfl
      obtain ⟨r, hr, rfl⟩ := List.mem_map.mp (show x ∈ rows.map (fun r => row B (r.1, wt size s f r)) from hx)
      simp only [row]
      walk_at "pv"
      exact ⟨by trivial, by trivial⟩
    · rintro G' rfl
      have hL2 : (rows.map fun r => row B (r.1, wt size s f r)).filterMap (fun x => match x with | .tup [_, w] => some w | _ => none) = (rows.map fun r => Rat.divInt (wt size s f r) B).map fr := by
        rw [List.filterMap_map, List.map_map, ← List.filterMap_eq_map]
        rfl
      simp only [hL2]
      generalize hG2 : G' ++ [.lst ((rows.map fun r => Rat.divInt (wt size s f r) B).map fr)] = G2
      have hk2 : G2[G'.length]? = some (.lst ((rows.map fun r => Rat.divInt (wt size s f r) B).map fr)) := by rw [← hG2]; simp
      have K2 : Kp [] G' G2 := by rw [← hG2]; exact Kp.push _ _ _
      have hk3 := K2.get hk1 (by simp)
      have hv3 := kVal_obj _ _ _ hk3
      have ht := total_ok n G2 G'.length _ hk2 (by
        intro x hx
        obtain ⟨r, hr, rfl⟩ := List.mem_map.mp hx
        exact sz_div hB h.bB (wt_lt h s f hr) (by omega)) (by
        intro i hi
        rw [← List.map_take, rsum_div B hB]
        exact sz_div hB h.bB (tot_lt h s f i) (by omega))
      rw [rsum_div B hB, show (rows.map fun r => wt size s f r).sum = tot size s f rows from rfl] at ht
      have hn := num_eq0 (p := (tot size s f rows : Int)) (q := (B : Int)) (by omega) (by omega)
      by_cases hS : tot size s f rows = 0
      · have hn' : ((Rat.divInt (tot size s f rows : Nat) (B : Int)).num = 0) = True := by rw [hn, hS]; simp
        have hS' : pstD size s f rows = .non := if_pos hS
        clear hS hn
        walk_at "pv"
        exact ⟨by trivial, K1.trans K2⟩
      · have hn' : ((Rat.divInt (tot size s f rows : Nat) (B : Int)).num = 0) = False := by rw [hn]; exact eq_false (by omega)
        clear hn
        walk_at "pv"
        refine lc_bind (fun x => match x with | .tup [.int b, .tup [.int p, .int q]] => if 0 < p then some (.tup [.int b, fr (Rat.divInt (p * ((Rat.divInt (tot size s f rows : Nat) (B : Int)).den : Int)) (q * (Rat.divInt (tot size s f rows : Nat) (B : Int)).num))]) else none | _ => none) (fun G' => G' = G2) ?_ rfl (fun _ hG => by rw [hG]; exact hk3) ?_ ?_
        · show (rows.map fun r => row B (r.1, wt size s f r)).length ≤ sizeLine
          rw [List.length_map]; exact Nat.le_trans h.len (by decide)
        · rintro x G' hx rfl
          obtain ⟨r, hr, rfl⟩ := List.mem_map.mp (show x ∈ rows.map (fun r => row B (r.1, wt size s f r)) from hx)
          have ho := over_ok (n + 1) G' (Rat.divInt (wt size s f r : Nat) (B : Int)) (Rat.divInt (tot size s f rows : Nat) (B : Int)) (sz_div hB h.bB (wt_lt h s f hr) (by omega)) (sz_div hB h.bB (by have := tot_lt h s f rows.length; rw [List.take_length] at this; exact this) (by omega)) (num_pos (by omega) (by omega))
          simp only [row]
          by_cases hp : 0 < (Rat.divInt (wt size s f r : Nat) (B : Int)).num
          · have hp' := eq_true hp
            walk_at "pv"
            refine ⟨?_, by trivial⟩
            simp only [fr, if_pos hp]
          · have hp' := eq_false hp
            walk_at "pv"
            refine ⟨?_, by trivial⟩
            simp only [fr, if_neg hp]
        · rintro G3 rfl
          have hL3 : (rows.map fun r => row B (r.1, wt size s f r)).filterMap (fun x => match x with | .tup [.int b, .tup [.int p, .int q]] => if 0 < p then some (.tup [.int b, fr (Rat.divInt (p * ((Rat.divInt (tot size s f rows : Nat) (B : Int)).den : Int)) (q * (Rat.divInt (tot size s f rows : Nat) (B : Int)).num))]) else none | _ => none) = (pst size s f rows).map (row (tot size s f rows)) := by
            have gen : ∀ l : List Row, (l.map fun r => row B (r.1, wt size s f r)).filterMap (fun x => match x with | .tup [.int b, .tup [.int p, .int q]] => if 0 < p then some (.tup [.int b, fr (Rat.divInt (p * ((Rat.divInt (tot size s f rows : Nat) (B : Int)).den : Int)) (q * (Rat.divInt (tot size s f rows : Nat) (B : Int)).num))]) else none | _ => none) = (pst size s f l).map (row (tot size s f rows)) := by
              intro l
              induction l with
              | nil => rfl
              | cons r l ih =>
                rw [List.map_cons, List.filterMap_cons, ih]
                have hg := num_gt0 (p := (wt size s f r : Int)) (q := (B : Int)) (by omega) (by omega)
                have e : pst size s f (r :: l) = if 0 < wt size s f r then (r.1, wt size s f r) :: pst size s f l else pst size s f l := by
                  unfold pst
                  rw [List.map_cons, List.filter_cons]
                  simp only [decide_eq_true_eq]
                rw [e]
                simp only [row, fr]
                by_cases hp : 0 < wt size s f r
                · have hp2 : 0 < (Rat.divInt (wt size s f r : Nat) (B : Int)).num := by rw [hg]; omega
                  rw [if_pos hp, if_pos hp2, List.map_cons]
                  have ho := divInt_over (wt size s f r) (tot size s f rows) B (by omega) (by omega)
                  simp only [ho]
                  rfl
                · have hp2 : ¬ 0 < (Rat.divInt (wt size s f r : Nat) (B : Int)).num := by rw [hg]; omega
                  rw [if_neg hp, if_neg hp2]
            exact gen rows
          simp only [hL3]
          have hk4 : (G3 ++ [PO.lst ((pst size s f rows).map (row (tot size s f rows)))])[G3.length]? = some (.lst ((pst size s f rows).map (row (tot size s f rows)))) := by simp
          have htu := tuple_lst _ _ _ hk4
          walk_at "pv"
          refine ⟨?_, (K1.trans K2).trans (Kp.push _ _ _)⟩
          unfold pstD
          rw [if_neg hS]
end K57
end SK57M3
section SK57M4
set_option Elab.async false
set_option linter.all false
set_option maxRecDepth 100000
set_option maxHeartbeats 4000000
namespace K57
open PySem L2 Pv
local macro_rules | `(tactic| walk_at "pv") => `(tactic| try simp only [evE_var, evE_cst, evE_glb, evE_op, evE_neg, evE_cmp, evE_chain, evE_isN, evE_notN, evE_and, evE_or, evE_not, evE_ite, evE_tup, evE_lst, evE_dct, evE_ix, evE_slc, evE_isI, evE_call, evE_blt, evE_mth, evE_lc, evO_no, evO_so, evEs_nil, evEs_cons, evK_nil, evK_cons, evA_nil, evA_cons, evI_val, evI_rng1, evI_rng2, asT_nm, asT_tp, asT_sub, asTs_nil, asTs_cons, evS_asg, evS_aug, evS_expr, evS_ret, evS_retN, evS_ifs, evS_fors, evS_whil, evS_brk, evS_cnt, evS_pass, evSs_nil, evSs_cons, kVar_some, kOp2_app, kOp1_app, kNeg_int, kCmp2_app, kCmp1_app, kCh3_t, kCh3_f, kCh2_app, kCh1_app, kIsN_app, kNotN_app, kBl_app, kAnd_t, kAnd_f, kOr_f, kOr_t, kNot_app, kIte_t, kIte_f, kTup_app, kLst_app, kDct_app, kIx2_app, kIx1_app, kSl3_app, kSl2_app, kSl1_app, kIsI_app, kCall_app, kBlt_app, kMth2_app, kMth1_app, kPart_int, kEs2_app, kEs1_app, kK3_app, kK2_str, kK2_int, kK1_app, kA_t, kA_f, kVal_tup, kVal_rol, kVal_obj, kRng1_app, kRng22_app, kRng21_app, kTs_app, kEnv_app, kSub2_app, kSub1_app, kT3_app, kT2_t, kT2_f, kT1_app, turnK_app, kNx_app, kAsg_app, kDrop_app, kRt_app, kAug2_add, kAug2_sub, kAug_some, kIf_t, kIf_f, kBody_app, bodyK_app, kFor_app, kSeq_nx, kSeq_rt, kSeq_bk, kSeq_ct, kRet_rt, kRet_nx, wTest_app, boolR_ok, okB_some, okO_some, R.bind_ok, R.bind_bad, R.bind_exc, opF_add, opF_sub, opF_mul, opF_fdiv, opF_mod, opF_pow, cmF_eq_int, cmF_ne_int, cmF_lt_int, cmF_le_int, cmF_gt_int, cmF_ge_int, cmF_eq_str, cmF_ne_str, len_tup, len_rol, len_lst, tuple_lst, list_tup, min2_int, max2_int, abs_int, int1_int, int1_bl, gcd_int, comb_int, List.getElem?_cons_zero, List.getElem?_cons_succ, List.set_cons_zero, List.set_cons_succ, List.map_cons, List.map_nil, List.cons_append, List.nil_append, List.replicate_succ, List.replicate_zero, Nat.reduceSub, List.length_cons, List.length_nil, Nat.reduceAdd, Nat.reduceLeDiff, if_true, if_false, Bool.false_eq_true, ITs.len, decide_true, decide_false, Bool.not_true, Bool.not_false, isNon, ixF_t0, ixF_t1, ixF_t2, kLoop_nx, kLoop_ct, kLoop_bk, kLoop_rt, forL_cons0, forL_nil0, R.bind_assoc', ixF_fr0, ixF_fr1, wipeE_nil, wipeE_cons, kLcEnd_app, and_self, isF_int_tuple, isF_int_str, isF_int_int, isF_int_bool, isF_str_tuple, isF_str_str, isF_tup_tuple, isNon_int, isNon_str, isNon_tup, isNon_non, List.length_append, List.length_map, append_snoc, mtOk_snoc, len_snoc, boolR_bind, kBool_bl, *])

theorem takeT (n : Nat) (J : JarC) (G : List PO) (m : Int) (hm : 0 < m) (h : Jar J G) : Res (T (n + 1) 9 [.obj J.a, .int m] G) fun d G' => ∃ v : Nat, d = .int v ∧ (v : Int) < m ∧ Jar J G' ∧ Kp [J.a] G G' := by
  rw [T_succ n 9 d_law_take rfl]
  exact take_ok _ _ J G m hm h
theorem partT (n : Nat) (G : List PO) (p q : Int) (hB : 0 < q) (h1 : Bd 990 p) (h2 : Bd 990 q) : T (n + 1) 10 [.int p, .int q] G = .ok (fr (Rat.divInt p q)) G := by
  rw [T_succ n 10 d_law_part rfl]
  exact part_ok _ _ G p q hB h1 h2
theorem chooseT (n : Nat) (G : List PO) (a k : Nat) (hn : a ≤ 100000) : T (n + 1) 12 [.int a, .int k] G = .ok (.int (ch a k)) G := by
  rw [T_succ n 12 d_law_choose rfl]
  exact choose_ok _ _ G a k hn
theorem sameT (G : List PO) (k n : Nat) (d : D) (h : Pl k d) : T (n + k + 1) 11 [d, d] G = .ok (.bl true) G :=
  same_ok T γ 11 (fun n => T_succ n 11 d_law_same rfl) G k n d h
theorem jarT (n : Nat) (ns : List Int) (G : List PO) (hn : ns.length ≤ 63) : Res (T (n + 1) 8 [.rol (ns.map D.int), .int 140] G) fun d G' => ∃ J : JarC, d = .obj J.a ∧ Jar J G' ∧ Kp [] G G' := by
  rw [T_succ n 8 d_law_jar rfl]
  exact (jar_ok _ _ ns G 140 hn (by decide) (by decide)).imp fun d G' ⟨J, h1, h2, h3, _⟩ => ⟨J, h1, h2, h3⟩
theorem foundT (n : Nat) (J : JarC) (G : List PO) (s : Nat) (h : Jar J G) : Res (T (n + 2) 15 [.obj J.a, .int s] G) fun d G' => ∃ v : Nat, d = .int v ∧ v ≤ s ∧ Jar J G' ∧ Kp [J.a] G G' := by
  rw [T_succ (n + 1) 15 d_law_found rfl, callD_app _ _ _ _ _ rfl]
  simp only [d_law_found, b_law_found]
  walk_at "pv"
  refine (takeT n J G 5 (by decide) h).bind ?_
  rintro _ G1 ⟨v, rfl, hv, hJ, K1⟩
  by_cases h0 : (v : Int) = 0
  · have h0' := eq_true h0
    clear h0
    walk_at "pv"
    exact Res.fin ⟨0, rfl, by omega, hJ, K1⟩
  · have h0' := eq_false h0
    by_cases h1 : (v : Int) = 1
    · have h1' := eq_true h1
      clear h1 h0
      walk_at "pv"
      exact Res.fin ⟨s, rfl, by omega, hJ, K1⟩
    · have h1' := eq_false h1
      walk_at "pv"
      refine (takeT n J G1 ((s : Int) + 1) (by omega) hJ).bind ?_
      rintro _ G2 ⟨v2, rfl, hv2, hJ2, K2⟩
      walk_at "pv"
      exact Res.fin ⟨v2, rfl, by omega, hJ2, K1.trans K2⟩
theorem _root_.Pv.Jar.lt {J : JarC} {G : List PO} (h : Jar J G) : J.a < G.length ∧ J.r < G.length := ⟨(List.getElem?_eq_some_iff.mp h.at_.choose_spec).1, (List.getElem?_eq_some_iff.mp h.row).1⟩
/-- a prior that the law draws -/
structure Pr0 (n B : Nat) (rows : List Row) : Prop where
  pos : 0 < B
  bB : B < 2 ^ 10
  len : rows.length ≤ 20
  row : ∀ r ∈ rows, r.1 ≤ n ∧ 0 < r.2 ∧ r.2 < 2 ^ 10
theorem priorT (n : Nat) (J : JarC) (G : List PO) (a : Nat) (ha : a ≤ 1000) (h : Jar J G) : Res (T (n + 2) 13 [.obj J.a, .int a] G) fun d G' => ∃ rows B, d = .tup (rows.map (row B)) ∧ Pr0 a B rows ∧ Jar J G' ∧ Kp [J.a] G G' := by
  rw [T_succ (n + 1) 13 d_law_prior rfl, callD_app _ _ _ _ _ rfl]
  simp only [d_law_prior, b_law_prior]
  walk_at "pv"
  refine (takeT n J G 3 (by decide) h).bind ?_
  rintro _ G1 ⟨v1, rfl, hv1, hJ1, K1⟩
  walk_at "pv"
  refine (takeT n J G1 ((a : Int) + 1) (by omega) hJ1).bind ?_
  rintro _ G2 ⟨v2, rfl, hv2, hJ2, K2⟩
  have m1 : CMulA (v1 : Int) (v2 : Int) := mulS (by omega)
  have m2 : (0 : Int) < (a : Int) + 1 := by omega
  walk_at "pv"
  refine (takeT n J G2 3 (by decide) hJ2).bind ?_
  rintro _ G3 ⟨tight, rfl, hv3, hJ3, K3⟩
  walk_at "pv"
  refine (takeT n J G3 30 (by decide) hJ3).bind ?_
  rintro _ G4 ⟨v4, rfl, hv4, hJ4, K4⟩
  have KA := ((K1.trans K2).trans K3).trans K4
  have hb0 : ∃ bad : Nat, (v1 : Int) * (v2 : Int) % ((a : Int) + 1) = (bad : Int) := ⟨((v1 : Int) * (v2 : Int) % ((a : Int) + 1)).toNat, (Int.toNat_of_nonneg (Int.emod_nonneg _ (by omega))).symm⟩
  obtain ⟨bad, hbad⟩ := hb0
  have hbot : (1 : Int) + (v4 : Int) = ((v4 + 1 : Nat) : Int) := by omega
  clear K1 K2 K3 K4 hJ1 hJ2 hJ3
  walk_at "pv"
  generalize hG5 : G4 ++ [PO.lst []] = G5
  have hk5 : G5[G4.length]? = some (.lst []) := by rw [← hG5]; simp
  have K5 : Kp [J.a] G4 G5 := by rw [← hG5]; exact Kp.push _ _ _
  have lt4 := hJ4.lt
  have hJ5 : Jar J G5 := hJ4.keep (by rw [← hG5]; exact Kp.push [] _ _) (by simp) (by simp)
  have hlen := KA.len
  have KB := KA.trans K5
  clear hG5 K5 KA hJ4
  generalize G4.length = o at *
  refine (takeT n J G5 20 (by decide) hJ5).bind ?_
  rintro _ G6 ⟨v6, rfl, hv6, hJ6, K6⟩
  have hr : -(2 ^ 62) ≤ (1 : Int) + (v6 : Int) ∧ (1 : Int) + (v6 : Int) < 2 ^ 62 := by omega
  have hk6 := K6.get hk5 (by simp; omega)
  have KC := KB.trans K6
  clear KB K6 hk5 hJ5
  walk_at "pv"
  generalize hB : v4 + 1 = B at *
  refine for_bind (fun i e G' => ∃ (rows : List Row) (b : Nat) (v6 v7 : Option D), e = [some (.obj J.a), some (.int a), some (.int b), some (.int tight), some (.int B), some (.obj o), v6, v7] ∧ rows.length ≤ i ∧ (∀ r ∈ rows, r.1 ≤ a ∧ 0 < r.2 ∧ r.2 < 2 ^ 10) ∧ G'[o]? = some (.lst (rows.map (row B))) ∧ Jar J G' ∧ Kp [J.a] G G')
    (fun e G' => ∃ (rows : List Row) (b : Nat) (v6 v7 : Option D), e = [some (.obj J.a), some (.int a), some (.int b), some (.int tight), some (.int B), some (.obj o), v6, v7] ∧ rows.length ≤ 20 ∧ (∀ r ∈ rows, r.1 ≤ a ∧ 0 < r.2 ∧ r.2 < 2 ^ 10) ∧ G'[o]? = some (.lst (rows.map (row B))) ∧ Jar J G' ∧ Kp [J.a] G G') (fun _ _ => False) rfl ?_ (fun _ _ _ _ _ => trivial) ?_ ?_ ?_ (fun _ _ h => h.elim)
  · exact ⟨[], bad, none, none, rfl, by simp, (fun _ h => by cases h), hk6, hJ6, KC⟩
  · rintro i x e G7 hx ⟨rows, b, w6, w7, rfl, hl, hrow, hk, hJ, K⟩
    obtain ⟨rfl, hi⟩ := rngF_get hx
    by_cases hb : (a : Int) < (b : Int)
    · have hb' := eq_true hb
      clear hb
      walk_at "pv"
      exact Res.fin ⟨rows, b, _, _, rfl, by omega, hrow, hk, hJ, K⟩
    · have hb' := eq_false hb
      walk_at "pv"
      refine (takeT n J G7 4 (by decide) hJ).bind ?_
      rintro _ G8 ⟨t1, rfl, ht1, hJ8, K8⟩
      have hk8 := K8.get hk (by simp; omega)
      have KX := K.trans K8
      clear hJ K K8 hk hk6 hJ6 KC
      walk_at "pv"
      refine (takeT n J G8 5 (by decide) hJ8).bind ?_
      rintro _ G9 ⟨t2, rfl, ht2, hJ9, K9⟩
      have hk9 := K9.get hk8 (by simp; omega)
      have KY := KX.trans K9
      clear hJ8 KX K9 hk8
      walk_at "pv"
      refine Res.bind (P := fun o' G' => ∃ (top : Nat), o' = .nx [some (.obj J.a), some (.int a), some (.int b), some (.int tight), some (.int B), some (.obj o), some (.int (0 + (i : Int))), some (.int top)] ∧ 0 < top ∧ top ≤ 1000 ∧ G'[o]? = some (.lst (rows.map (row B))) ∧ Jar J G' ∧ Kp [J.a] G G') ?_ ?_
      · by_cases h2 : (t2 : Int) = 0
        · have h2' := eq_true h2
          clear h2
          walk_at "pv"
          refine (takeT n J G9 1000 (by decide) hJ9).bind ?_
          rintro _ G10 ⟨t3, rfl, ht3, hJ10, K10⟩
          have hk10 := K10.get hk9 (by simp; omega)
          walk_at "pv"
          exact Res.fin ⟨t3 + 1, by rw [show (1 : Int) + (t3 : Int) = ((t3 + 1 : Nat) : Int) by omega], by omega, by omega, hk10, hJ10, KY.trans K10⟩
        · have h2' := eq_false h2
          walk_at "pv"
          exact Res.fin ⟨t1 + 1, by rw [show (1 : Int) + (t1 : Int) = ((t1 + 1 : Nat) : Int) by omega], by omega, by omega, hk9, hJ9, KY⟩
      · clear hJ9 KY hk9
        rintro _ G10 ⟨top, rfl, ht0, ht9, hk10, hJ10, K10⟩
        have hmt := mtOk_lst _ _ _ hk10
        have hap : ∀ y, mthF .append (.obj o) [y] G10 = _ := fun y => append_lst o _ y G10 hk10 (by rw [List.length_map]; omega)
        have hpt := partT n G10 (top : Int) (B : Int) (by omega) (Bd.of (by omega) 1000 (Nat.lt_of_lt_of_le (show 1000 < 2 ^ 10 by decide) (Nat.pow_le_pow_right (by decide) (by decide))) (by omega)) (Bd.of (by omega) 1000 (Nat.lt_of_lt_of_le (show 1000 < 2 ^ 10 by decide) (Nat.pow_le_pow_right (by decide) (by decide))) (by omega))
        walk_at "pv"
        have el : rows.map (row B) ++ [D.tup [.int b, fr (Rat.divInt (top : Int) (B : Int))]] = (rows ++ [(b, top)]).map (row B) := by rw [List.map_append]; rfl
        rw [el]
        generalize hG11 : G10.set o (.lst ((rows ++ [(b, top)]).map (row B))) = G11
        have hk11 : G11[o]? = some (.lst ((rows ++ [(b, top)]).map (row B))) := by rw [← hG11]; exact List.getElem?_set_self (List.getElem?_eq_some_iff.mp hk10).1
        have K11 : Kp (o :: [J.a]) G10 G11 := by rw [← hG11]; exact Kp.set (by simp) _ _
        have hJ11 : Jar J G11 := hJ10.keep (by rw [← hG11]; exact Kp.set (S := [o]) (by simp) _ _) (by simp; omega) (by simp; omega)
        have KZ := K10.late K11 (by omega)
        have hrow2 : ∀ r ∈ rows ++ [(b, top)], r.1 ≤ a ∧ 0 < r.2 ∧ r.2 < 2 ^ 10 := by
          intro r hr
          rcases List.mem_append.mp hr with hr | hr
          · exact hrow r hr
          · rw [List.mem_singleton.mp hr]; exact ⟨by omega, ht0, Nat.lt_of_le_of_lt ht9 (by decide)⟩
        have hlen2 : (rows ++ [(b, top)]).length ≤ i + 1 := by rw [List.length_append]; simp; omega
        generalize rows ++ [(b, top)] = rows2 at *
        clear hG11 K10 K11 hJ10 hk10 hap hmt hpt el
        walk_at "pv"
        refine Res.bind (P := fun o' G' => ∃ (b2 : Nat), o' = .nx [some (.obj J.a), some (.int a), some (.int b2), some (.int tight), some (.int B), some (.obj o), some (.int (0 + (i : Int))), some (.int top)] ∧ G'[o]? = some (.lst (rows2.map (row B))) ∧ Jar J G' ∧ Kp [J.a] G G') ?_ ?_
        · by_cases h2 : (tight : Int) = 0
          · have h2' := eq_true h2
            clear h2
            have hd : CDivW (a : Int) 12 := divW (by decide) (Bd.of (by decide) 12 (Nat.lt_of_lt_of_le (show 12 < 2 ^ 10 by decide) (Nat.pow_le_pow_right (by decide) (by decide))) (by decide))
            walk_at "pv"
            refine (takeT n J G11 (1 + (a : Int) / 12) (by have := Int.ediv_nonneg (show 0 ≤ (a : Int) by omega) (show (0 : Int) ≤ 12 by decide); omega) hJ11).bind ?_
            rintro _ G12 ⟨t3, rfl, ht3, hJ12, K12⟩
            have hk12 := K12.get hk11 (by simp; omega)
            walk_at "pv"
            exact Res.fin ⟨b + 1 + t3, by rw [show (b : Int) + 1 + (t3 : Int) = ((b + 1 + t3 : Nat) : Int) by omega], hk12, hJ12, KZ.trans K12⟩
          · have h2' := eq_false h2
            walk_at "pv"
            exact Res.fin ⟨b + 1, by rw [show (b : Int) + 1 = ((b + 1 : Nat) : Int) by omega], hk11, hJ11, KZ⟩
        · clear hk11 hJ11 KZ hb hb'
          rintro _ G12 ⟨b2, rfl, hk12, hJ12, K12⟩
          by_cases h2 : (tight : Int) = 1
          · have h2' := eq_true h2
            clear h2
            walk_at "pv"
            refine (takeT n J G12 6 (by decide) hJ12).bind ?_
            rintro _ G13 ⟨t3, rfl, ht3, hJ13, K13⟩
            have hk13 := K13.get hk12 (by simp; omega)
            have KZ := K12.trans K13
            clear hJ12 K12 K13 hk12
            by_cases h3 : (t3 : Int) = 0
            · have h3' := eq_true h3
              clear h3
              obtain ⟨b3, hb3⟩ : ∃ b3 : Nat, (if (b2 : Int) < (a : Int) then (a : Int) else (b2 : Int)) = (b3 : Int) := ⟨if b2 < a then a else b2, by split <;> split <;> omega⟩
              walk_at "pv"
              exact Res.fin ⟨rows2, b3, _, _, rfl, hlen2, hrow2, hk13, hJ13, KZ⟩
            · have h3' := eq_false h3
              walk_at "pv"
              exact Res.fin ⟨rows2, b2, _, _, rfl, hlen2, hrow2, hk13, hJ13, KZ⟩
          · have h2' := eq_false h2
            walk_at "pv"
            exact Res.fin ⟨rows2, b2, _, _, rfl, hlen2, hrow2, hk12, hJ12, K12⟩
  · intro e G' hI
    rw [rngF_len] at hI
    obtain ⟨rows, b, w6, w7, rfl, hl, hrow, hk, hJ, K⟩ := hI
    have htu := tuple_lst _ _ _ hk
    walk_at "pv"
    exact Res.fin ⟨rows, B, rfl, ⟨by omega, Nat.lt_of_le_of_lt (show B ≤ 30 by omega) (by decide), by omega, hrow⟩, hJ, K⟩
  · rintro e G' ⟨rows, b, w6, w7, rfl, hl, hrow, hk, hJ, K⟩
    have htu := tuple_lst _ _ _ hk
    walk_at "pv"
    exact Res.fin ⟨rows, B, rfl, ⟨by omega, Nat.lt_of_le_of_lt (show B ≤ 30 by omega) (by decide), by omega, hrow⟩, hJ, K⟩
end K57
end SK57M4
section SK57M5
set_option Elab.async false
set_option linter.all false
set_option maxRecDepth 100000
set_option maxHeartbeats 4000000
namespace K57
open PySem L2 Pv
theorem list1_fr (y : Rat) (G : List Pv.PO) : bltF .list1 [fr y] G = .ok (.obj G.length) (G ++ [.lst [.int y.num, .int (y.den : Int)]]) := (rfl)
local macro_rules | `(tactic| walk_at "pv") => `(tactic| try simp only [evE_var, evE_cst, evE_glb, evE_op, evE_neg, evE_cmp, evE_chain, evE_isN, evE_notN, evE_and, evE_or, evE_not, evE_ite, evE_tup, evE_lst, evE_dct, evE_ix, evE_slc, evE_isI, evE_call, evE_blt, evE_mth, evE_lc, evO_no, evO_so, evEs_nil, evEs_cons, evK_nil, evK_cons, evA_nil, evA_cons, evI_val, evI_rng1, evI_rng2, asT_nm, asT_tp, asT_sub, asTs_nil, asTs_cons, evS_asg, evS_aug, evS_expr, evS_ret, evS_retN, evS_ifs, evS_fors, evS_whil, evS_brk, evS_cnt, evS_pass, evSs_nil, evSs_cons, kVar_some, kOp2_app, kOp1_app, kNeg_int, kCmp2_app, kCmp1_app, kCh3_t, kCh3_f, kCh2_app, kCh1_app, kIsN_app, kNotN_app, kBl_app, kAnd_t, kAnd_f, kOr_f, kOr_t, kNot_app, kIte_t, kIte_f, kTup_app, kLst_app, kDct_app, kIx2_app, kIx1_app, kSl3_app, kSl2_app, kSl1_app, kIsI_app, kCall_app, kBlt_app, kMth2_app, kMth1_app, kPart_int, kEs2_app, kEs1_app, kK3_app, kK2_str, kK2_int, kK1_app, kA_t, kA_f, kVal_tup, kVal_rol, kVal_obj, kRng1_app, kRng22_app, kRng21_app, kTs_app, kEnv_app, kSub2_app, kSub1_app, kT3_app, kT2_t, kT2_f, kT1_app, turnK_app, kNx_app, kAsg_app, kDrop_app, kRt_app, kAug2_add, kAug2_sub, kAug_some, kIf_t, kIf_f, kBody_app, bodyK_app, kFor_app, kSeq_nx, kSeq_rt, kSeq_bk, kSeq_ct, kRet_rt, kRet_nx, wTest_app, boolR_ok, okB_some, okO_some, R.bind_ok, R.bind_bad, R.bind_exc, opF_add, opF_sub, opF_mul, opF_fdiv, opF_mod, opF_pow, cmF_eq_int, cmF_ne_int, cmF_lt_int, cmF_le_int, cmF_gt_int, cmF_ge_int, cmF_eq_str, cmF_ne_str, len_tup, len_rol, len_lst, tuple_lst, list_tup, min2_int, max2_int, abs_int, int1_int, int1_bl, gcd_int, comb_int, List.getElem?_cons_zero, List.getElem?_cons_succ, List.set_cons_zero, List.set_cons_succ, List.map_cons, List.map_nil, List.cons_append, List.nil_append, List.replicate_succ, List.replicate_zero, Nat.reduceSub, List.length_cons, List.length_nil, Nat.reduceAdd, Nat.reduceLeDiff, if_true, if_false, Bool.false_eq_true, ITs.len, decide_true, decide_false, Bool.not_true, Bool.not_false, isNon, ixF_t0, ixF_t1, ixF_t2, kLoop_nx, kLoop_ct, kLoop_bk, kLoop_rt, forL_cons0, forL_nil0, R.bind_assoc', ixF_fr0, ixF_fr1, wipeE_nil, wipeE_cons, kLcEnd_app, and_self, isF_int_tuple, isF_int_str, isF_int_int, isF_int_bool, isF_str_tuple, isF_str_str, isF_tup_tuple, isNon_int, isNon_str, isNon_tup, isNon_non, List.length_append, List.length_map, boolR_bind, kBool_bl, list1_fr, *])

theorem div_step (S x : Rat) (c : Nat) : Rat.divInt (S.num * (x.den : Int) + x.num * (c : Int) * (S.den : Int)) ((S.den : Int) * (x.den : Int)) = S + x * ((c : Nat) : Rat) := by
  have h1 := rat_den_pos S
  have h2 := rat_den_pos x
  have e : x * ((c : Nat) : Rat) = Rat.divInt (x.num * (c : Int)) (x.den : Int) := by
    conv => lhs; rw [← Rat.num_divInt_den x]
    exact divInt_mul' _ _ _
  rw [e]
  conv => rhs; rw [← Rat.num_divInt_den S]
  rw [Rat.divInt_add_divInt _ _ (by omega) (by omega)]
theorem div_chain (m c B t : Int) (hB : 0 < B) (ht : 0 < t) : Rat.divInt ((Rat.divInt m B).num * c * ((Rat.divInt t B).den : Int)) (((Rat.divInt m B).den : Int) * (Rat.divInt t B).num) = Rat.divInt (m * c) t := by
  have d1 := rat_den_pos (Rat.divInt m B)
  have d2 := rat_den_pos (Rat.divInt t B)
  have f1 := (Rat.divInt_eq_divInt_iff (d₁ := B) (d₂ := ((Rat.divInt m B).den : Int)) (by omega) (by omega)).mp (Rat.num_divInt_den (Rat.divInt m B)).symm
  have f2 := (Rat.divInt_eq_divInt_iff (d₁ := B) (d₂ := ((Rat.divInt t B).den : Int)) (by omega) (by omega)).mp (Rat.num_divInt_den (Rat.divInt t B)).symm
  have hn := num_pos hB ht
  generalize (Rat.divInt m B).num = p at *
  generalize ((Rat.divInt m B).den : Int) = q at *
  generalize (Rat.divInt t B).num = u at *
  generalize ((Rat.divInt t B).den : Int) = v at *
  refine rat_eq (Int.mul_pos d1 hn) ht ?_
  have : (p * c * v * t) * B = (m * c * (q * u)) * B := by
    calc (p * c * v * t) * B = (p * B) * c * (t * v) := by grind
      _ = (m * q) * c * (u * B) := by rw [f1, f2]
      _ = _ := by grind
  exact Int.eq_of_mul_eq_mul_right (by omega) this
theorem Pr0.pr {n B : Nat} {rows : List Row} (h : Pr0 n B rows) (hn : n ≤ 200) : Pr n B rows :=
  ⟨hn, h.pos, Nat.lt_of_lt_of_le h.bB (Nat.pow_le_pow_right (by decide) (by decide)), h.len, fun r hr => (h.row r hr).1, fun r hr => Nat.lt_of_lt_of_le (h.row r hr).2.2 (Nat.pow_le_pow_right (by decide) (by decide))⟩
def mny (n s f : Nat) (r : Row) : Nat := ch r.1 f * ch (n - r.1) (s - f)
def dr (n s f B : Nat) (r : Row) : Option D := if 0 < mny n s f r then some (.tup [.int r.1, .int ((Rat.divInt r.2 B).num * (mny n s f r : Int)), .int ((Rat.divInt r.2 B).den : Int)]) else none
def drF (S : Rat) (d : D) : Option D := match d with
  | .tup [.int b, .int p, .int q] => some (.tup [.int b, fr (Rat.divInt (p * (S.den : Int)) (q * S.num))])
  | _ => none
theorem dr_all (n s f B t : Nat) (hB : 0 < B) (ht : 0 < t) : ∀ l : List Row, (∀ r ∈ l, 0 < r.2) → (l.filterMap (dr n s f B)).filterMap (drF (Rat.divInt t B)) = (pst n s f l).map (row t)
  | [], _ => rfl
  | r :: l, h => by
    have ih := dr_all n s f B t hB ht l fun x hx => h x (List.mem_cons_of_mem _ hx)
    have hr := h r List.mem_cons_self
    have e : pst n s f (r :: l) = if 0 < wt n s f r then (r.1, wt n s f r) :: pst n s f l else pst n s f l := by
      unfold pst
      rw [List.map_cons, List.filter_cons]
      simp only [decide_eq_true_eq]
    have ew : wt n s f r = r.2 * mny n s f r := rfl
    rw [e]
    by_cases hm : 0 < mny n s f r
    · have hw : 0 < wt n s f r := Nat.mul_pos hr hm
      rw [if_pos hw, List.filterMap_cons]
      have ed : dr n s f B r = some (.tup [.int r.1, .int ((Rat.divInt r.2 B).num * (mny n s f r : Int)), .int ((Rat.divInt r.2 B).den : Int)]) := if_pos hm
      rw [ed]
      simp only
      rw [List.filterMap_cons, ih, List.map_cons]
      simp only [drF, row]
      rw [div_chain _ _ _ _ (by omega) (by omega), ew]
      push_cast
      rfl
    · have hw : ¬ 0 < wt n s f r := by rw [ew, show mny n s f r = 0 by omega]; simp
      rw [if_neg hw, List.filterMap_cons]
      have ed : dr n s f B r = none := if_neg hm
      rw [ed]
      exact ih
theorem dr_len (n s f B : Nat) : ∀ l : List Row, (∀ r ∈ l, 0 < r.2) → ((l.filterMap (dr n s f B)).length = 0 ↔ tot n s f l = 0)
  | [], _ => by simp [tot]
  | r :: l, h => by
    have ih := dr_len n s f B l fun x hx => h x (List.mem_cons_of_mem _ hx)
    have hr := h r List.mem_cons_self
    have et : tot n s f (r :: l) = wt n s f r + tot n s f l := List.sum_cons
    have ew : wt n s f r = r.2 * mny n s f r := rfl
    rw [et, List.filterMap_cons]
    by_cases hm : 0 < mny n s f r
    · have hw : 0 < wt n s f r := Nat.mul_pos hr hm
      have ed : dr n s f B r = some (.tup [.int r.1, .int ((Rat.divInt r.2 B).num * (mny n s f r : Int)), .int ((Rat.divInt r.2 B).den : Int)]) := if_pos hm
      rw [ed]
      simp only [List.length_cons]
      constructor <;> intro h <;> omega
    · have hw : wt n s f r = 0 := by rw [ew, show mny n s f r = 0 by omega]; simp
      have ed : dr n s f B r = none := if_neg hm
      rw [ed, hw, Nat.zero_add]
      exact ih
theorem tot_snoc (n s f : Nat) (l : List Row) (r : Row) : tot n s f (l ++ [r]) = tot n s f l + wt n s f r := by unfold tot; simp
theorem take_snoc {rows : List Row} {i : Nat} {r : Row} (h : rows[i]? = some r) : rows.take (i + 1) = rows.take i ++ [r] := by rw [List.take_succ, h]; rfl
end K57
end SK57M5
section SK57M6
set_option Elab.async false
set_option linter.all false
set_option maxRecDepth 100000
set_option maxHeartbeats 4000000
namespace K57
open PySem L2 Pv
local macro_rules | `(tactic| walk_at "pv") => `(tactic| try simp only [evE_var, evE_cst, evE_glb, evE_op, evE_neg, evE_cmp, evE_chain, evE_isN, evE_notN, evE_and, evE_or, evE_not, evE_ite, evE_tup, evE_lst, evE_dct, evE_ix, evE_slc, evE_isI, evE_call, evE_blt, evE_mth, evE_lc, evO_no, evO_so, evEs_nil, evEs_cons, evK_nil, evK_cons, evA_nil, evA_cons, evI_val, evI_rng1, evI_rng2, asT_nm, asT_tp, asT_sub, asTs_nil, asTs_cons, evS_asg, evS_aug, evS_expr, evS_ret, evS_retN, evS_ifs, evS_fors, evS_whil, evS_brk, evS_cnt, evS_pass, evSs_nil, evSs_cons, kVar_some, kOp2_app, kOp1_app, kNeg_int, kCmp2_app, kCmp1_app, kCh3_t, kCh3_f, kCh2_app, kCh1_app, kIsN_app, kNotN_app, kBl_app, kAnd_t, kAnd_f, kOr_f, kOr_t, kNot_app, kIte_t, kIte_f, kTup_app, kLst_app, kDct_app, kIx2_app, kIx1_app, kSl3_app, kSl2_app, kSl1_app, kIsI_app, kCall_app, kBlt_app, kMth2_app, kMth1_app, kPart_int, kEs2_app, kEs1_app, kK3_app, kK2_str, kK2_int, kK1_app, kA_t, kA_f, kVal_tup, kVal_rol, kVal_obj, kRng1_app, kRng22_app, kRng21_app, kTs_app, kEnv_app, kSub2_app, kSub1_app, kT3_app, kT2_t, kT2_f, kT1_app, turnK_app, kNx_app, kAsg_app, kDrop_app, kRt_app, kAug2_add, kAug2_sub, kAug_some, kIf_t, kIf_f, kBody_app, bodyK_app, kFor_app, kSeq_nx, kSeq_rt, kSeq_bk, kSeq_ct, kRet_rt, kRet_nx, wTest_app, boolR_ok, okB_some, okO_some, R.bind_ok, R.bind_bad, R.bind_exc, opF_add, opF_sub, opF_mul, opF_fdiv, opF_mod, opF_pow, cmF_eq_int, cmF_ne_int, cmF_lt_int, cmF_le_int, cmF_gt_int, cmF_ge_int, cmF_eq_str, cmF_ne_str, len_tup, len_rol, len_lst, tuple_lst, list_tup, min2_int, max2_int, abs_int, int1_int, int1_bl, gcd_int, comb_int, List.getElem?_cons_zero, List.getElem?_cons_succ, List.set_cons_zero, List.set_cons_succ, List.map_cons, List.map_nil, List.cons_append, List.nil_append, List.replicate_succ, List.replicate_zero, Nat.reduceSub, List.length_cons, List.length_nil, Nat.reduceAdd, Nat.reduceLeDiff, if_true, if_false, Bool.false_eq_true, ITs.len, decide_true, decide_false, Bool.not_true, Bool.not_false, isNon, ixF_t0, ixF_t1, ixF_t2, kLoop_nx, kLoop_ct, kLoop_bk, kLoop_rt, forL_cons0, forL_nil0, R.bind_assoc', ixF_fr0, ixF_fr1, wipeE_nil, wipeE_cons, kLcEnd_app, and_self, isF_int_tuple, isF_int_str, isF_int_int, isF_int_bool, isF_str_tuple, isF_str_str, isF_tup_tuple, isNon_int, isNon_str, isNon_tup, isNon_non, List.length_append, List.length_map, boolR_bind, kBool_bl, list1_fr, ixF_snoc0, ixF_snoc1, *])

theorem bd_nat {m k a : Nat} (h : m < 2 ^ a) (hk : a ≤ k) : Bd k (m : Int) := Nat.lt_of_lt_of_le h (Nat.pow_le_pow_right (by decide) hk)
theorem dueT (n : Nat) (G : List Pv.PO) (a B s f : Nat) (rows : List Row) (h : Pr0 a B rows) (ha : a ≤ 200) (hf : f ≤ s) : Res (T (n + 2) 14 [.int a, .tup (rows.map (row B)), .int s, .int f] G) fun d G' => d = pstD a s f rows ∧ Kp [] G G' := by
  rw [T_succ (n + 1) 14 d_law_due rfl, callD_app _ _ _ _ _ rfl]
  have hpr := h.pr ha
  have hB := h.pos
  have htot := tot_lt hpr s f
  have hS : ∀ i, Sz 600 (Rat.divInt (tot a s f (rows.take i) : Nat) (B : Int)) := fun i => Sz.of (by omega) (htot i) (bd_nat h.bB (by decide))
  have hSd : ∀ i, Bd 10 ((Rat.divInt (tot a s f (rows.take i) : Nat) (B : Int)).den : Int) := fun i => Bd.le (bd_nat h.bB (Nat.le_refl 10)) (by
    have h1 := den_le (p := (tot a s f (rows.take i) : Int)) (q := (B : Int)) (by omega)
    have h2 := rat_den_pos (Rat.divInt (tot a s f (rows.take i) : Nat) (B : Int))
    omega)
  have hx : ∀ r ∈ rows, Sz 10 (Rat.divInt (r.2 : Int) (B : Int)) := fun r hr => Sz.of (by omega) (h.row r hr).2.2 h.bB
  clear htot
  simp only [d_law_due, b_law_due]
  walk_at "pv"
  refine for_thru (fun i e G' => ∃ (w r : Nat) (v6 v7 v8 v9 : Option D), e = [some (.int a), some (.tup (rows.map (row B))), some (.int s), some (.int f), some (.obj w), some (.obj r), v6, v7, v8, v9] ∧ w ≠ r ∧ G.length ≤ w ∧ G.length ≤ r ∧
    G'[w]? = some (.lst [.int (Rat.divInt (tot a s f (rows.take i) : Nat) (B : Int)).num, .int ((Rat.divInt (tot a s f (rows.take i) : Nat) (B : Int)).den : Int)]) ∧ G'[r]? = some (.lst ((rows.take i).filterMap (dr a s f B))) ∧ Kp [] G G') rfl ?_ (fun _ _ _ _ _ => trivial) ?_ ?_
  · refine ⟨G.length, G.length + 1, none, none, none, none, ?_, by omega, by omega, by omega, ?_, ?_, ?_⟩
    · simp
    · have e0 : Rat.divInt ((tot a s f (rows.take 0) : Nat) : Int) (B : Int) = 0 := divInt_zero' _
      rw [e0]; simp
    · simp
    · exact (Kp.push [] _ _).trans (Kp.push [] _ _)
  · rintro i x e G1 hx0 ⟨w, r, v6, v7, v8, v9, rfl, hwr, hw, hr, hkw, hkr, K⟩
    have hx1 : (rows.map (row B))[i]? = some x := hx0
    rw [List.getElem?_map] at hx1
    cases hq : rows[i]? with
    | none => rw [hq] at hx1; cases hx1
    | some q =>
      rw [hq] at hx1
      cases hx1
      have hm := List.mem_of_getElem? hq
      obtain ⟨hq1, hq2, hq3⟩ := h.row q hm
      have hxq := hx q hm
      have hSi := hS i
      have hSdi := hSd i
      have hts : tot a s f (rows.take (i + 1)) = tot a s f (rows.take i) + wt a s f q := by rw [take_snoc hq, tot_snoc]
      have hfs : (rows.take (i + 1)).filterMap (dr a s f B) = (rows.take i).filterMap (dr a s f B) ++ (match dr a s f B q with | some y => [y] | none => []) := by
        rw [take_snoc hq, List.filterMap_append, List.filterMap_cons]
        cases dr a s f B q <;> rfl
      have hli : ((rows.take i).filterMap (dr a s f B)).length < 16000000 := by
        have h1 := List.length_filterMap_le (dr a s f B) (rows.take i)
        have h2 : (rows.take i).length ≤ rows.length := by rw [List.length_take]; omega
        have := h.len
        omega
      have hstep := div_step (Rat.divInt (tot a s f (rows.take i) : Nat) (B : Int)) (Rat.divInt (q.2 : Int) (B : Int)) (mny a s f q)
      rw [divInt_mul', divInt_add' _ _ _ (by omega), show ((tot a s f (rows.take i) : Nat) : Int) + (q.2 : Int) * ((mny a s f q : Nat) : Int) = ((tot a s f (rows.take (i + 1)) : Nat) : Int) by rw [hts]; unfold wt mny; push_cast; rfl] at hstep
      have c1 := chooseT n G1 q.1 f (by omega)
      have c2 := chooseT n G1 (a - q.1) (s - f) (by omega)
      rw [Int.natCast_sub hq1, Int.natCast_sub hf] at c2
      have hcc := cc_lt q.1 f (a - q.1) (s - f)
      have m1 : CMulA (ch q.1 f : Int) (ch (a - q.1) (s - f) : Int) := mulA (Bd.nat (ch_lt q.1 f)) (Bd.nat (ch_lt (a - q.1) (s - f))) (by omega) (by omega) (by omega)
      have em : (ch q.1 f : Int) * (ch (a - q.1) (s - f) : Int) = (mny a s f q : Int) := by unfold mny; push_cast; rfl
      have hbm : Bd 201 (mny a s f q : Int) := bd_nat hcc (by omega)
      have w0 : ixF (.obj w) (.int 0) G1 = _ := ixF_l0 _ _ _ _ hkw
      have w1 : ixF (.obj w) (.int 1) G1 = _ := ixF_l1 _ _ _ _ _ hkw
      have hmt := mtOk_lst _ _ _ hkr
      have hap : ∀ y, mthF .append (.obj r) [y] G1 = _ := fun y => append_lst r _ y G1 hkr hli
      have hdr : dr a s f B q = if 0 < mny a s f q then some (.tup [.int q.1, .int ((Rat.divInt q.2 B).num * (mny a s f q : Int)), .int ((Rat.divInt q.2 B).den : Int)]) else none := rfl
      have h00 : mny a s f q = 0 → tot a s f (rows.take (i + 1)) = tot a s f (rows.take i) := by
        intro h0
        rw [hts, show wt a s f q = q.2 * mny a s f q from rfl, h0, Nat.mul_zero, Nat.add_zero]
      clear hx hS hSd hli hx0 hcc hts
      simp only [row]
      generalize Rat.divInt (q.2 : Int) (B : Int) = x at *
      generalize hSg : Rat.divInt ((tot a s f (rows.take i) : Nat) : Int) (B : Int) = S at *
      generalize mny a s f q = m at *
      have p1 : CMulA x.num (m : Int) := mulA hxq.num hbm (by omega) (by omega) (by omega)
      have p2 : CMulA S.num (x.den : Int) := mulA hSi.num hxq.den (by omega) (by omega) (by omega)
      have p3 : CMulA (x.num * (m : Int)) (S.den : Int) := mulA (hxq.num.mul hbm (Nat.le_refl _)) hSdi (by omega) (by omega) (by omega)
      have p4 : CMulA (S.den : Int) (x.den : Int) := mulA hSdi hxq.den (by omega) (by omega) (by omega)
      have bP : Bd 990 (S.num * (x.den : Int) + x.num * (m : Int) * (S.den : Int)) := Bd.add (hSi.num.mul hxq.den (Nat.le_refl _)) ((hxq.num.mul hbm (Nat.le_refl _)).mul hSdi (Nat.le_refl _)) (by omega) (by omega)
      have bQ : Bd 990 ((S.den : Int) * (x.den : Int)) := hSdi.mul hxq.den (by omega)
      have hpt : ∀ G', T (n + 1) 10 [.int (S.num * (x.den : Int) + x.num * (m : Int) * (S.den : Int)), .int ((S.den : Int) * (x.den : Int))] G' = .ok (fr (Rat.divInt ((tot a s f (rows.take (i + 1)) : Nat) : Int) (B : Int))) G' := fun G' => by
        rw [partT n G' _ _ (Int.mul_pos (rat_den_pos S) (rat_den_pos x)) bP bQ, hstep]
      clear hstep hSi hSdi hxq hbm bP bQ
      by_cases hm0 : 0 < m
      · have hm1 : ((0 : Int) < (m : Int)) = True := eq_true (by omega)
        rw [if_pos hm0] at hdr
        rw [hdr] at hfs
        clear hm0 hdr
        walk_at "pv"
        generalize hG2 : G1.set r (.lst ((rows.take i).filterMap (dr a s f B) ++ [.tup [.int q.1, .int (x.num * (m : Int)), .int (x.den : Int)]])) = G2
        have hkw2 : G2[w]? = some (.lst [.int S.num, .int (S.den : Int)]) := by rw [← hG2, List.getElem?_set_ne (Ne.symm hwr)]; exact hkw
        have hkr2 : G2[r]? = some (.lst ((rows.take (i + 1)).filterMap (dr a s f B))) := by rw [← hG2, hfs]; exact List.getElem?_set_self (List.getElem?_eq_some_iff.mp hkr).1
        have K2 : Kp (r :: []) G1 G2 := by rw [← hG2]; exact Kp.set (by simp) _ _
        have KA := K.late K2 hr
        have w0 : ixF (.obj w) (.int 0) G2 = _ := ixF_l0 _ _ _ _ hkw2
        have w1 : ixF (.obj w) (.int 1) G2 = _ := ixF_l1 _ _ _ _ _ hkw2
        have hlw := (List.getElem?_eq_some_iff.mp hkw2).1
        have hlr := (List.getElem?_eq_some_iff.mp hkr2).1
        clear hG2 hkw hkr K2 K
        walk_at "pv"
        refine Res.fin ⟨G2.length + 1, r, _, _, _, _, rfl, by omega, by omega, hr, by simp, ?_, KA.trans ((Kp.push [] _ _).trans (Kp.push [] _ _))⟩
        have e1 : ∀ u v : Pv.PO, (G2 ++ [u] ++ [v])[r]? = G2[r]? := fun u v => by
          rw [List.append_assoc, List.getElem?_append_left hlr]
        rw [e1, hkr2]
      · have hm1 : ((0 : Int) < (m : Int)) = False := eq_false (by omega)
        have hm2 : m = 0 := by omega
        rw [if_neg hm0] at hdr
        rw [hdr, List.append_nil] at hfs
        have h01 := h00 hm2
        clear hm0 hdr hm2
        walk_at "pv"
        refine Res.fin ⟨w, r, _, _, _, _, rfl, hwr, hw, hr, ?_, ?_, K⟩
        · rw [h01, hSg]; exact hkw
        · rw [hfs]; exact hkr
  · intro e G1 hI
    have ht : rows.take (List.map (row B) rows).length = rows := by simp
    rw [ht] at hI
    obtain ⟨w, r, v6, v7, v8, v9, rfl, hwr, hw, hr, hkw, hkr, K⟩ := hI
    have hln := len_lst _ _ _ hkr
    have hdl := dr_len a s f B rows fun r hr => (h.row r hr).2.1
    have hSs := hS rows.length
    have hSds := hSd rows.length
    rw [List.take_length] at hSs hSds
    by_cases h0 : tot a s f rows = 0
    · have hl0 : (((rows.filterMap (dr a s f B)).length : Int) = 0) = True := eq_true (by have := hdl.mpr h0; omega)
      have hp : pstD a s f rows = .non := if_pos h0
      clear hdl h0 hS hSd hSs hSds hx
      walk_at "pv"
      exact Res.fin ⟨rfl, K⟩
    · have hl0 : (((rows.filterMap (dr a s f B)).length : Int) = 0) = False := eq_false (by
        have : ¬ (rows.filterMap (dr a s f B)).length = 0 := fun e => h0 (hdl.mp e)
        omega)
      have hv := kVal_obj _ _ _ hkr
      have hnp := num_pos (p := (tot a s f rows : Int)) (q := (B : Int)) (by omega) (by omega)
      have w0 : ixF (.obj w) (.int 0) G1 = _ := ixF_l0 _ _ _ _ hkw
      have w1 : ixF (.obj w) (.int 1) G1 = _ := ixF_l1 _ _ _ _ _ hkw
      clear hdl hS hSd
      walk_at "pv"
      refine lc_bind (drF (Rat.divInt (tot a s f rows : Nat) (B : Int))) (fun G' => G' = G1) ?_ rfl (fun _ hG => by rw [hG]; exact hkr) ?_ ?_
      · show (rows.filterMap (dr a s f B)).length ≤ sizeLine
        have h1 := List.length_filterMap_le (dr a s f B) rows
        exact Nat.le_trans (Nat.le_trans h1 h.len) (by decide)
      · rintro x G' hxm rfl
        obtain ⟨q, hq, hqx⟩ := List.mem_filterMap.mp (show x ∈ rows.filterMap (dr a s f B) from hxm)
        unfold dr at hqx
        by_cases hm : 0 < mny a s f q
        · rw [if_pos hm] at hqx
          cases hqx
          have hxq := hx q hq
          have hcc := cc_lt q.1 f (a - q.1) (s - f)
          have hqa := (h.row q hq).1
          have hbm : Bd 201 (mny a s f q : Int) := bd_nat hcc (by omega)
          clear hx hcc
          generalize Rat.divInt (q.2 : Int) (B : Int) = x at *
          generalize Rat.divInt (tot a s f rows : Nat) (B : Int) = S at *
          generalize mny a s f q = m at *
          have p1 : CMulA (x.num * (m : Int)) (S.den : Int) := mulA (hxq.num.mul hbm (Nat.le_refl _)) hSds (by omega) (by omega) (by omega)
          have p2 : CMulA (x.den : Int) S.num := mulA hxq.den hSs.num (by omega) (by omega) (by omega)
          have hpt := partT n G' (x.num * (m : Int) * (S.den : Int)) ((x.den : Int) * S.num) (Int.mul_pos (rat_den_pos x) hnp) ((hxq.num.mul hbm (Nat.le_refl _)).mul hSds (by omega)) (hxq.den.mul hSs.num (by omega))
          clear hxq hbm hSs hSds
          walk_at "pv"
          exact Res.fin ⟨rfl, rfl⟩
        · rw [if_neg hm] at hqx; cases hqx
      · rintro G2 rfl
        have hL := dr_all a s f B (tot a s f rows) hB (by omega) rows fun r hr => (h.row r hr).2.1
        simp only [hL]
        have htu := tuple_snoc G2 ((pst a s f rows).map (row (tot a s f rows)))
        have hp : pstD a s f rows = .tup ((pst a s f rows).map (row (tot a s f rows))) := if_neg h0
        clear hL hx hSs hSds
        walk_at "pv"
        exact Res.fin ⟨rfl, K.trans (Kp.push [] _ _)⟩
end K57
end SK57M6
section SK57M7
set_option Elab.async false
set_option linter.all false
set_option maxRecDepth 100000
set_option maxHeartbeats 4000000
namespace K57
open PySem L2 Pv
local macro_rules | `(tactic| walk_at "pv") => `(tactic| try simp only [evE_var, evE_cst, evE_glb, evE_op, evE_neg, evE_cmp, evE_chain, evE_isN, evE_notN, evE_and, evE_or, evE_not, evE_ite, evE_tup, evE_lst, evE_dct, evE_ix, evE_slc, evE_isI, evE_call, evE_blt, evE_mth, evE_lc, evO_no, evO_so, evEs_nil, evEs_cons, evK_nil, evK_cons, evA_nil, evA_cons, evI_val, evI_rng1, evI_rng2, asT_nm, asT_tp, asT_sub, asTs_nil, asTs_cons, evS_asg, evS_aug, evS_expr, evS_ret, evS_retN, evS_ifs, evS_fors, evS_whil, evS_brk, evS_cnt, evS_pass, evSs_nil, evSs_cons, kVar_some, kOp2_app, kOp1_app, kNeg_int, kCmp2_app, kCmp1_app, kCh3_t, kCh3_f, kCh2_app, kCh1_app, kIsN_app, kNotN_app, kBl_app, kAnd_t, kAnd_f, kOr_f, kOr_t, kNot_app, kIte_t, kIte_f, kTup_app, kLst_app, kDct_app, kIx2_app, kIx1_app, kSl3_app, kSl2_app, kSl1_app, kIsI_app, kCall_app, kBlt_app, kMth2_app, kMth1_app, kPart_int, kEs2_app, kEs1_app, kK3_app, kK2_str, kK2_int, kK1_app, kA_t, kA_f, kVal_tup, kVal_rol, kVal_obj, kRng1_app, kRng22_app, kRng21_app, kTs_app, kEnv_app, kSub2_app, kSub1_app, kT3_app, kT2_t, kT2_f, kT1_app, turnK_app, kNx_app, kAsg_app, kDrop_app, kRt_app, kAug2_add, kAug2_sub, kAug_some, kIf_t, kIf_f, kBody_app, bodyK_app, kFor_app, kSeq_nx, kSeq_rt, kSeq_bk, kSeq_ct, kRet_rt, kRet_nx, wTest_app, boolR_ok, okB_some, okO_some, R.bind_ok, R.bind_bad, R.bind_exc, opF_add, opF_sub, opF_mul, opF_fdiv, opF_mod, opF_pow, cmF_eq_int, cmF_ne_int, cmF_lt_int, cmF_le_int, cmF_gt_int, cmF_ge_int, cmF_eq_str, cmF_ne_str, len_tup, len_rol, len_lst, tuple_lst, list_tup, min2_int, max2_int, abs_int, int1_int, int1_bl, gcd_int, comb_int, List.getElem?_cons_zero, List.getElem?_cons_succ, List.set_cons_zero, List.set_cons_succ, List.map_cons, List.map_nil, List.cons_append, List.nil_append, List.replicate_succ, List.replicate_zero, Nat.reduceSub, List.length_cons, List.length_nil, Nat.reduceAdd, Nat.reduceLeDiff, if_true, if_false, Bool.false_eq_true, ITs.len, decide_true, decide_false, Bool.not_true, Bool.not_false, isNon, ixF_t0, ixF_t1, ixF_t2, kLoop_nx, kLoop_ct, kLoop_bk, kLoop_rt, forL_cons0, forL_nil0, R.bind_assoc', ixF_fr0, ixF_fr1, wipeE_nil, wipeE_cons, kLcEnd_app, and_self, isF_int_tuple, isF_int_str, isF_int_int, isF_int_bool, isF_str_tuple, isF_str_str, isF_tup_tuple, isNon_int, isNon_str, isNon_tup, isNon_non, List.length_append, List.length_map, boolR_bind, kBool_bl, tuple_snoc, *])

theorem ch_tri' {b f1 f2 : Nat} (h : f1 ≤ b) : ch b f1 * ch (b - f1) f2 = ch b (f1 + f2) * ch (f1 + f2) f1 := by
  by_cases h2 : f1 + f2 ≤ b
  · exact ch_tri h2
  · rw [ch_above (show b - f1 < f2 by omega), ch_above (show b < f1 + f2 by omega)]; simp
theorem ch_nz {n k : Nat} (h : ch n k ≠ 0) : k ≤ n := by
  rcases Nat.lt_or_ge n k with h2 | h2
  · exact absurd (ch_above h2) h
  · exact h2
/-- how often the whole sample splits so -/
def spl (s1 s2 f1 f2 : Nat) : Nat := ch (f1 + f2) f1 * ch ((s1 - f1) + (s2 - f2)) (s1 - f1)
theorem spl_pos (s1 s2 f1 f2 : Nat) : 0 < spl s1 s2 f1 f2 := Nat.mul_pos (ch_pos (by omega)) (ch_pos (by omega))
section
variable {n s1 s2 f1 f2 : Nat} (h1 : f1 ≤ s1) (h2 : f2 ≤ s2)
include h1 h2
theorem two_pos {r : Row} (hw : 0 < wt n s1 f1 r) : f1 ≤ r.1 ∧ s1 - f1 ≤ n - r.1 := by
  have hn : wt n s1 f1 r ≠ 0 := by omega
  unfold wt at hn
  have a : ch r.1 f1 * ch (n - r.1) (s1 - f1) ≠ 0 := fun e => hn (by rw [e, Nat.mul_zero])
  exact ⟨ch_nz fun e => a (by rw [e, Nat.zero_mul]), ch_nz fun e => a (by rw [e, Nat.mul_zero])⟩
theorem two_wt {r : Row} (hw : 0 < wt n s1 f1 r) : wt (n - s1) s2 f2 (r.1 - f1, wt n s1 f1 r) = spl s1 s2 f1 f2 * wt n (s1 + s2) (f1 + f2) r := by
  obtain ⟨a, b⟩ := two_pos h1 h2 hw
  have e1 := ch_tri' (f2 := f2) a
  have e2 := ch_tri' (f2 := s2 - f2) b
  have e3 : n - s1 - (r.1 - f1) = n - r.1 - (s1 - f1) := by omega
  have e4 : s1 + s2 - (f1 + f2) = (s1 - f1) + (s2 - f2) := by omega
  show r.2 * (ch r.1 f1 * ch (n - r.1) (s1 - f1)) * (ch (r.1 - f1) f2 * ch (n - s1 - (r.1 - f1)) (s2 - f2)) = spl s1 s2 f1 f2 * (r.2 * (ch r.1 (f1 + f2) * ch (n - r.1) (s1 + s2 - (f1 + f2))))
  rw [e3, e4]
  unfold spl
  calc r.2 * (ch r.1 f1 * ch (n - r.1) (s1 - f1)) * (ch (r.1 - f1) f2 * ch (n - r.1 - (s1 - f1)) (s2 - f2)) = r.2 * (ch r.1 f1 * ch (r.1 - f1) f2) * (ch (n - r.1) (s1 - f1) * ch (n - r.1 - (s1 - f1)) (s2 - f2)) := by grind
    _ = _ := by rw [e1, e2]; grind
theorem two_zero {r : Row} (hw : wt n s1 f1 r = 0) : wt n (s1 + s2) (f1 + f2) r = 0 := by
  have e4 : s1 + s2 - (f1 + f2) = (s1 - f1) + (s2 - f2) := by omega
  unfold wt at *
  rw [e4]
  rcases Nat.mul_eq_zero.mp hw with h | h
  · rw [h]; simp
  · rcases Nat.mul_eq_zero.mp h with h | h
    · have : r.1 < f1 := by
        rcases Nat.lt_or_ge r.1 f1 with h3 | h3
        · exact h3
        · have := ch_pos h3; omega
      rw [ch_above (show r.1 < f1 + f2 by omega)]; simp
    · have : n - r.1 < s1 - f1 := by
        rcases Nat.lt_or_ge (n - r.1) (s1 - f1) with h3 | h3
        · exact h3
        · have := ch_pos h3; omega
      rw [ch_above (show n - r.1 < s1 - f1 + (s2 - f2) by omega)]; simp
/-- the prior of the second part -/
def left (n s1 f1 : Nat) (l : List Row) : List Row := (pst n s1 f1 l).map fun r => (r.1 - f1, r.2)
omit h1 h2 in
theorem pst_cons (n s f : Nat) (r : Row) (l : List Row) : pst n s f (r :: l) = if 0 < wt n s f r then (r.1, wt n s f r) :: pst n s f l else pst n s f l := by
  unfold pst
  rw [List.map_cons, List.filter_cons]
  simp only [decide_eq_true_eq]
omit h1 h2 in
theorem tot_cons (n s f : Nat) (r : Row) (l : List Row) : tot n s f (r :: l) = wt n s f r + tot n s f l := List.sum_cons
theorem two_tot (l : List Row) : tot (n - s1) s2 f2 (left n s1 f1 l) = spl s1 s2 f1 f2 * tot n (s1 + s2) (f1 + f2) l := by
  induction l with
  | nil => rfl
  | cons r l ih =>
    rw [tot_cons, Nat.mul_add, ← ih]
    by_cases hw : 0 < wt n s1 f1 r
    · have e : left n s1 f1 (r :: l) = (r.1 - f1, wt n s1 f1 r) :: left n s1 f1 l := by unfold left; rw [pst_cons, if_pos hw]; rfl
      rw [e, tot_cons, two_wt h1 h2 hw]
    · have e : left n s1 f1 (r :: l) = left n s1 f1 l := by unfold left; rw [pst_cons, if_neg hw]
      rw [e, two_zero h1 h2 (show wt n s1 f1 r = 0 by omega), Nat.mul_zero, Nat.zero_add]
theorem two_pst (l : List Row) : pst (n - s1) s2 f2 (left n s1 f1 l) = (pst n (s1 + s2) (f1 + f2) l).map fun r => (r.1 - f1, spl s1 s2 f1 f2 * r.2) := by
  induction l with
  | nil => rfl
  | cons r l ih =>
    have hs := spl_pos s1 s2 f1 f2
    by_cases hw : 0 < wt n s1 f1 r
    · have e : left n s1 f1 (r :: l) = (r.1 - f1, wt n s1 f1 r) :: left n s1 f1 l := by unfold left; rw [pst_cons, if_pos hw]; rfl
      rw [e, pst_cons, pst_cons, two_wt h1 h2 hw]
      by_cases h3 : 0 < wt n (s1 + s2) (f1 + f2) r
      · rw [if_pos h3, if_pos (Nat.mul_pos hs h3), ih]; rfl
      · rw [if_neg h3, if_neg (by rw [show wt n (s1 + s2) (f1 + f2) r = 0 by omega]; simp), ih]
    · have e : left n s1 f1 (r :: l) = left n s1 f1 l := by unfold left; rw [pst_cons, if_neg hw]
      have h3 := two_zero h1 h2 (show wt n s1 f1 r = 0 by omega)
      rw [e, pst_cons, if_neg (by omega), ih]
omit h1 h2 in
theorem pst_mem {n s f : Nat} {l : List Row} {r : Row} (h : r ∈ pst n s f l) : ∃ q ∈ l, r = (q.1, wt n s f q) ∧ 0 < wt n s f q := by
  unfold pst at h
  obtain ⟨h3, h4⟩ := List.mem_filter.mp h
  obtain ⟨q, hq, rfl⟩ := List.mem_map.mp h3
  exact ⟨q, hq, rfl, by simpa using h4⟩
/-- both ways tell the same -/
theorem two_all (l : List Row) (hS : 0 < tot n (s1 + s2) (f1 + f2) l) : ((pst (n - s1) s2 f2 (left n s1 f1 l)).map fun r => D.tup [.int ((r.1 : Int) + (f1 : Int)), fr (Rat.divInt (r.2 : Int) ((tot (n - s1) s2 f2 (left n s1 f1 l) : Nat) : Int))]) = (pst n (s1 + s2) (f1 + f2) l).map (row (tot n (s1 + s2) (f1 + f2) l)) := by
  rw [two_tot h1 h2, two_pst h1 h2, List.map_map]
  refine List.map_congr_left fun r hr => ?_
  obtain ⟨q, hq, rfl, hp⟩ := pst_mem hr
  have hb := (two_pos (n := n) (s1 := s1 + s2) (f1 := f1 + f2) (s2 := s2) (f2 := f2) (by omega) h2 hp).1
  have hs := spl_pos s1 s2 f1 f2
  simp only [Function.comp_apply, row]
  rw [show ((q.1 - f1 : Nat) : Int) + (f1 : Int) = (q.1 : Int) by omega]
  congr 3
  refine congrArg fr (rat_eq (by exact_mod_cast Nat.mul_pos hs hS) (by omega) ?_)
  push_cast
  grind
end
theorem left_pr {n B s1 f1 : Nat} {rows : List Row} (h : Pr0 n B rows) (hn : n ≤ 200) (h1 : f1 ≤ s1) (hs : s1 ≤ n) (h0 : 0 < tot n s1 f1 rows) : Pr (n - s1) (tot n s1 f1 rows) (left n s1 f1 rows) := by
  have hw : ∀ q ∈ rows, wt n s1 f1 q < 2 ^ 211 := by
    intro q hq
    obtain ⟨a, b, c⟩ := h.row q hq
    have h5 : ch q.1 f1 * ch (n - q.1) (s1 - f1) < 2 ^ 201 := Nat.lt_of_lt_of_le (cc_lt _ _ _ _) (Nat.pow_le_pow_right (by omega) (by omega))
    have := Nat.mul_lt_mul'' c h5
    rw [← Nat.pow_add] at this
    exact this
  have hl := h.len
  refine ⟨by omega, h0, ?_, ?_, ?_, ?_⟩
  · have h1 := sum_lt (rows.map (wt n s1 f1)) (2 ^ 211) (by
      intro x hx
      obtain ⟨q, hq, rfl⟩ := List.mem_map.mp hx
      exact hw q hq)
    rw [List.length_map] at h1
    have h3 : rows.length * 2 ^ 211 ≤ 20 * 2 ^ 211 := Nat.mul_le_mul_right _ hl
    exact Nat.lt_of_le_of_lt (Nat.le_trans h1 h3) (by decide)
  · unfold left pst
    rw [List.length_map]
    have := List.length_filter_le (fun r : Row => decide (0 < r.2)) (rows.map fun r => (r.1, wt n s1 f1 r))
    rw [List.length_map] at this
    omega
  · intro r hr
    obtain ⟨p, hp, rfl⟩ := List.mem_map.mp hr
    obtain ⟨q, hq, rfl, hpos⟩ := pst_mem hp
    obtain ⟨a, b⟩ := two_pos (s2 := 0) (f2 := 0) h1 (by omega) hpos
    have := (h.row q hq).1
    show q.1 - f1 ≤ n - s1
    omega
  · intro r hr
    obtain ⟨p, hp, rfl⟩ := List.mem_map.mp hr
    obtain ⟨q, hq, rfl, hpos⟩ := pst_mem hp
    exact Nat.lt_of_lt_of_le (hw q hq) (Nat.pow_le_pow_right (by decide) (by decide))
theorem pl_pstD (n s f : Nat) (rows : List Row) (hl : rows.length ≤ 20) : Pl 3 (pstD n s f rows) := by
  unfold pstD
  split
  · exact .non 3
  · refine .tup 2 _ ?_ ?_
    · intro x hx
      obtain ⟨r, hr, rfl⟩ := List.mem_map.mp hx
      refine .tup 1 _ ?_ (show 2 < 2 ^ 62 by decide)
      intro y hy
      rcases List.mem_cons.mp hy with rfl | hy
      · exact .int _ _
      · rw [List.mem_singleton.mp hy]
        refine .tup 0 _ ?_ (show 2 < 2 ^ 62 by decide)
        intro z hz
        rcases List.mem_cons.mp hz with rfl | hz
        · exact .int _ _
        · rw [List.mem_singleton.mp hz]; exact .int _ _
    · rw [List.length_map]
      unfold pst
      have := List.length_filter_le (fun r : Row => decide (0 < r.2)) (rows.map fun r => (r.1, wt n s f r))
      rw [List.length_map] at this
      omega
end K57
end SK57M7
section SK57M8
set_option Elab.async false
set_option linter.all false
set_option maxRecDepth 100000
set_option maxHeartbeats 4000000
namespace K57
open PySem L2 Pv
local macro_rules | `(tactic| walk_at "pv") => `(tactic| try simp only [evE_var, evE_cst, evE_glb, evE_op, evE_neg, evE_cmp, evE_chain, evE_isN, evE_notN, evE_and, evE_or, evE_not, evE_ite, evE_tup, evE_lst, evE_dct, evE_ix, evE_slc, evE_isI, evE_call, evE_blt, evE_mth, evE_lc, evO_no, evO_so, evEs_nil, evEs_cons, evK_nil, evK_cons, evA_nil, evA_cons, evI_val, evI_rng1, evI_rng2, asT_nm, asT_tp, asT_sub, asTs_nil, asTs_cons, evS_asg, evS_aug, evS_expr, evS_ret, evS_retN, evS_ifs, evS_fors, evS_whil, evS_brk, evS_cnt, evS_pass, evSs_nil, evSs_cons, kVar_some, kOp2_app, kOp1_app, kNeg_int, kCmp2_app, kCmp1_app, kCh3_t, kCh3_f, kCh2_app, kCh1_app, kIsN_app, kNotN_app, kBl_app, kAnd_t, kAnd_f, kOr_f, kOr_t, kNot_app, kIte_t, kIte_f, kTup_app, kLst_app, kDct_app, kIx2_app, kIx1_app, kSl3_app, kSl2_app, kSl1_app, kIsI_app, kCall_app, kBlt_app, kMth2_app, kMth1_app, kPart_int, kEs2_app, kEs1_app, kK3_app, kK2_str, kK2_int, kK1_app, kA_t, kA_f, kVal_tup, kVal_rol, kVal_obj, kRng1_app, kRng22_app, kRng21_app, kTs_app, kEnv_app, kSub2_app, kSub1_app, kT3_app, kT2_t, kT2_f, kT1_app, turnK_app, kNx_app, kAsg_app, kDrop_app, kRt_app, kAug2_add, kAug2_sub, kAug_some, kIf_t, kIf_f, kBody_app, bodyK_app, kFor_app, kSeq_nx, kSeq_rt, kSeq_bk, kSeq_ct, kRet_rt, kRet_nx, wTest_app, boolR_ok, okB_some, okO_some, R.bind_ok, R.bind_bad, R.bind_exc, opF_add, opF_sub, opF_mul, opF_fdiv, opF_mod, opF_pow, cmF_eq_int, cmF_ne_int, cmF_lt_int, cmF_le_int, cmF_gt_int, cmF_ge_int, cmF_eq_str, cmF_ne_str, len_tup, len_rol, len_lst, tuple_lst, list_tup, min2_int, max2_int, abs_int, int1_int, int1_bl, gcd_int, comb_int, List.getElem?_cons_zero, List.getElem?_cons_succ, List.set_cons_zero, List.set_cons_succ, List.map_cons, List.map_nil, List.cons_append, List.nil_append, List.replicate_succ, List.replicate_zero, Nat.reduceSub, List.length_cons, List.length_nil, Nat.reduceAdd, Nat.reduceLeDiff, if_true, if_false, Bool.false_eq_true, ITs.len, decide_true, decide_false, Bool.not_true, Bool.not_false, isNon, ixF_t0, ixF_t1, ixF_t2, kLoop_nx, kLoop_ct, kLoop_bk, kLoop_rt, forL_cons0, forL_nil0, R.bind_assoc', ixF_fr0, ixF_fr1, wipeE_nil, wipeE_cons, kLcEnd_app, and_self, isF_int_tuple, isF_int_str, isF_int_int, isF_int_bool, isF_str_tuple, isF_str_str, isF_tup_tuple, isNon_int, isNon_str, isNon_tup, isNon_non, List.length_append, List.length_map, boolR_bind, kBool_bl, tuple_snoc, *])

theorem cast_min (a b : Nat) : (if (b : Int) < (a : Int) then (b : Int) else (a : Int)) = ((min a b : Nat) : Int) := by split <;> omega
theorem law_ok (n : Nat) (ns : List Int) (hn : ns.length ≤ 63) : Res (T (n + 5) 16 [.rol (ns.map D.int)] []) fun d _ => d = .bl true := by
  rw [T_succ (n + 4) 16 d_law rfl, callD_app _ _ _ _ _ rfl]
  simp only [d_law, b_law]
  walk_at "pv"
  refine (jarT (n + 3) ns [] hn).bind ?_
  rintro _ G0 ⟨J, rfl, hJ, -⟩
  walk_at "pv"
  refine (takeT (n + 3) J G0 18 (by decide) hJ).bind ?_
  rintro _ G1 ⟨v1, rfl, hv1, hJ, -⟩
  walk_at "pv"
  refine (takeT (n + 3) J G1 2 (by decide) hJ).bind ?_
  rintro _ G2 ⟨v2, rfl, hv2, hJ, -⟩
  walk_at "pv"
  refine Res.bind (P := fun o' G' => ∃ (a : Nat), o' = .nx [some (.rol (ns.map D.int)), some (.obj J.a), some (.int a), none, none, none, none, none, none, none, none, none, none] ∧ 2 ≤ a ∧ a ≤ 200 ∧ Jar J G') ?_ ?_
  · by_cases h2 : (v2 : Int) = 0
    · have h2' := eq_true h2
      clear h2
      walk_at "pv"
      refine (takeT (n + 3) J G2 199 (by decide) hJ).bind ?_
      rintro _ G3 ⟨v3, rfl, hv3, hJ, -⟩
      walk_at "pv"
      exact Res.fin ⟨v3 + 2, by rw [show (2 : Int) + (v3 : Int) = ((v3 + 2 : Nat) : Int) by omega], by omega, by omega, hJ⟩
    · have h2' := eq_false h2
      walk_at "pv"
      exact Res.fin ⟨v1 + 2, by rw [show (2 : Int) + (v1 : Int) = ((v1 + 2 : Nat) : Int) by omega], by omega, by omega, hJ⟩
  clear hJ hv1 hv2
  rintro _ G3 ⟨a, rfl, ha2, ha, hJ⟩
  walk_at "pv"
  refine (priorT (n + 2) J G3 a (by omega) hJ).bind ?_
  rintro _ G4 ⟨rows, B, rfl, hP, hJ, -⟩
  have cm := cast_min a 25
  rw [show ((25 : Nat) : Int) = 25 from rfl] at cm
  walk_at "pv"
  refine (takeT (n + 3) J G4 ((min a 25 : Nat) : Int) (by omega) hJ).bind ?_
  rintro _ G5 ⟨s1, rfl, hs1, hJ, -⟩
  have ea : (a : Int) - (s1 : Int) = ((a - s1 : Nat) : Int) := by omega
  have cm2 := cast_min (a - s1) 25
  rw [show ((25 : Nat) : Int) = 25 from rfl] at cm2
  walk_at "pv"
  refine (takeT (n + 3) J G5 (((min (a - s1) 25 : Nat) : Int) + 1) (by omega) hJ).bind ?_
  rintro _ G6 ⟨s2, rfl, hs2, hJ, -⟩
  walk_at "pv"
  refine (foundT (n + 2) J G6 s1 hJ).bind ?_
  rintro _ G7 ⟨f1, rfl, hf1, hJ, -⟩
  walk_at "pv"
  refine (foundT (n + 2) J G7 s2 hJ).bind ?_
  rintro _ G8 ⟨f2, rfl, hf2, hJ, -⟩
  have es : (s1 : Int) + (s2 : Int) = ((s1 + s2 : Nat) : Int) := by omega
  have ef : (f1 : Int) + (f2 : Int) = ((f1 + f2 : Nat) : Int) := by omega
  clear hJ
  have hs3 : s1 < a := by omega
  have hs4 : s1 + s2 ≤ a := by omega
  clear hs1 hs2 cm cm2
  walk_at "pv"
  refine (posterior_ok n G8 a B (s1 + s2) (f1 + f2) rows (hP.pr ha) (by omega) (by omega) (by omega)).bind ?_
  rintro _ G9 ⟨rfl, -⟩
  walk_at "pv"
  refine (dueT (n + 2) G9 a B (s1 + s2) (f1 + f2) rows hP ha (by omega)).bind ?_
  rintro _ G10 ⟨rfl, -⟩
  have hsm := sameT G10 3 n _ (pl_pstD a (s1 + s2) (f1 + f2) rows hP.len)
  walk_at "pv"
  refine (posterior_ok n G10 a B s1 f1 rows (hP.pr ha) (by omega) (by omega) (by omega)).bind ?_
  rintro _ G11 ⟨rfl, -⟩
  walk_at "pv"
  refine (dueT (n + 2) G11 a B s1 f1 rows hP ha (by omega)).bind ?_
  rintro _ G12 ⟨rfl, -⟩
  have hsm := sameT G12 3 n _ (pl_pstD a s1 f1 rows hP.len)
  walk_at "pv"
  have htt := two_tot (n := a) hf1 hf2 rows
  have hsp := spl_pos s1 s2 f1 f2
  by_cases hT1 : tot a s1 f1 rows = 0
  · have hp1 : pstD a s1 f1 rows = .non := if_pos hT1
    have hp2 : pstD a (s1 + s2) (f1 + f2) rows = .non := by
      refine if_pos ?_
      have h0 : ∀ l : List Row, tot a s1 f1 l = 0 → tot a (s1 + s2) (f1 + f2) l = 0 := by
        intro l
        induction l with
        | nil => intro _; rfl
        | cons r l ih =>
          intro h
          rw [tot_cons] at h ⊢
          rw [two_zero hf1 hf2 (show wt a s1 f1 r = 0 by omega), ih (by omega)]
      exact h0 rows hT1
    clear htt hT1 hsm
    walk_at "pv"
    exact Res.fin rfl
  · have hp1 : pstD a s1 f1 rows = .tup ((pst a s1 f1 rows).map (row (tot a s1 f1 rows))) := if_neg hT1
    have hv := kVal_tup ((pst a s1 f1 rows).map (row (tot a s1 f1 rows)))
    walk_at "pv"
    refine lc_bind (fun x => match x with | .tup [.int b, w] => some (.tup [.int (b - (f1 : Int)), w]) | _ => none) (fun G' => G' = G12) ?_ rfl (fun _ _ => trivial) ?_ ?_
    · show ((pst a s1 f1 rows).map (row (tot a s1 f1 rows))).length ≤ sizeLine
      rw [List.length_map]
      have := (left_pr hP ha hf1 (by omega) (by omega)).len
      unfold left at this
      rw [List.length_map] at this
      exact Nat.le_trans this (by decide)
    · rintro x G' hx rfl
      obtain ⟨q, hq, rfl⟩ := List.mem_map.mp (show x ∈ (pst a s1 f1 rows).map (row (tot a s1 f1 rows)) from hx)
      clear htt hsm hp1
      simp only [row]
      walk_at "pv"
      exact Res.fin ⟨rfl, rfl⟩
    rintro G13 rfl
    have hL : ((pst a s1 f1 rows).map (row (tot a s1 f1 rows))).filterMap (fun x => match x with | .tup [.int b, w] => some (.tup [.int (b - (f1 : Int)), w]) | _ => none) = (left a s1 f1 rows).map (row (tot a s1 f1 rows)) := by
      have gen : ∀ l : List Row, (∀ q ∈ l, f1 ≤ q.1) → (l.map (row (tot a s1 f1 rows))).filterMap (fun x => match x with | .tup [.int b, w] => some (.tup [.int (b - (f1 : Int)), w]) | _ => none) = (l.map fun r => (r.1 - f1, r.2)).map (row (tot a s1 f1 rows)) := by
        intro l
        induction l with
        | nil => intro _; rfl
        | cons q l ih =>
          intro h
          rw [List.map_cons, List.filterMap_cons, ih fun x hx => h x (List.mem_cons_of_mem _ hx), List.map_cons, List.map_cons]
          simp only [row]
          rw [show (q.1 : Int) - (f1 : Int) = ((q.1 - f1 : Nat) : Int) by have := h q List.mem_cons_self; omega]
      refine gen _ fun q hq => ?_
      obtain ⟨p, hp, rfl, hpos⟩ := pst_mem hq
      exact (two_pos hf1 hf2 hpos).1
    simp only [hL]
    clear hL hsm
    walk_at "pv"
    refine (posterior_ok n _ (a - s1) (tot a s1 f1 rows) s2 f2 (left a s1 f1 rows) (left_pr hP ha hf1 (by omega) (by omega)) (by omega) (by omega) (by omega)).bind ?_
    rintro _ G14 ⟨rfl, -⟩
    by_cases hSW : tot a (s1 + s2) (f1 + f2) rows = 0
    · have hp2 : pstD a (s1 + s2) (f1 + f2) rows = .non := if_pos hSW
      have hp3 : pstD (a - s1) s2 f2 (left a s1 f1 rows) = .non := if_pos (by rw [htt, hSW, Nat.mul_zero])
      clear htt hSW hT1 hp1
      walk_at "pv"
      exact Res.fin rfl
    · have hSp : 0 < tot a (s1 + s2) (f1 + f2) rows := by omega
      have hall := two_all hf1 hf2 rows hSp
      have hp2 : pstD a (s1 + s2) (f1 + f2) rows = .tup ((pst a (s1 + s2) (f1 + f2) rows).map (row (tot a (s1 + s2) (f1 + f2) rows))) := if_neg hSW
      have hp3 : pstD (a - s1) s2 f2 (left a s1 f1 rows) = .tup ((pst (a - s1) s2 f2 (left a s1 f1 rows)).map (row (tot (a - s1) s2 f2 (left a s1 f1 rows)))) := if_neg (by
        rw [htt]
        exact Nat.ne_of_gt (Nat.mul_pos hsp hSp))
      have hv := kVal_tup ((pst (a - s1) s2 f2 (left a s1 f1 rows)).map (row (tot (a - s1) s2 f2 (left a s1 f1 rows))))
      have hpl := pl_pstD a (s1 + s2) (f1 + f2) rows hP.len
      rw [hp2] at hpl
      clear htt hSW hT1 hp1
      walk_at "pv"
      refine lc_bind (fun x => match x with | .tup [.int b, w] => some (.tup [.int (b + (f1 : Int)), w]) | _ => none) (fun G' => G' = G14) ?_ rfl (fun _ _ => trivial) ?_ ?_
      · show ((pst (a - s1) s2 f2 (left a s1 f1 rows)).map (row (tot (a - s1) s2 f2 (left a s1 f1 rows)))).length ≤ sizeLine
        rw [two_pst hf1 hf2, List.length_map, List.length_map]
        unfold pst
        have := List.length_filter_le (fun r : Row => decide (0 < r.2)) (rows.map fun r => (r.1, wt a (s1 + s2) (f1 + f2) r))
        rw [List.length_map] at this
        exact Nat.le_trans (Nat.le_trans this hP.len) (by decide)
      · rintro x G' hx rfl
        obtain ⟨q, hq, rfl⟩ := List.mem_map.mp (show x ∈ (pst (a - s1) s2 f2 (left a s1 f1 rows)).map (row (tot (a - s1) s2 f2 (left a s1 f1 rows))) from hx)
        clear hall hp2 hp3 hpl
        simp only [row]
        walk_at "pv"
        exact Res.fin ⟨rfl, rfl⟩
      rintro G15 rfl
      have hL : ((pst (a - s1) s2 f2 (left a s1 f1 rows)).map (row (tot (a - s1) s2 f2 (left a s1 f1 rows)))).filterMap (fun x => match x with | .tup [.int b, w] => some (.tup [.int (b + (f1 : Int)), w]) | _ => none) = (pst a (s1 + s2) (f1 + f2) rows).map (row (tot a (s1 + s2) (f1 + f2) rows)) := by
        rw [← hall, List.filterMap_map, ← List.filterMap_eq_map]
        rfl
      simp only [hL]
      have hsm := fun G => sameT G 3 n _ hpl
      clear hL hall hp2 hp3 hpl
      walk_at "pv"
      exact Res.fin rfl
theorem pure_law (ns : List Int) (hn : ns.length ≤ 63) : ∃ G', T LV 16 [.rol (ns.map Pv.D.int)] [] = .ok (.bl true) G' := by
  obtain ⟨d, G', e, rfl⟩ := (law_ok 35 ns hn).ex
  exact ⟨G', e⟩
end K57
end SK57M8
section SK57C
set_option Elab.async false
set_option linter.all false
set_option maxRecDepth 100000
set_option maxHeartbeats 4000000
namespace K57
open PySem L2 Pv
def topS (i : Nat) : Stmt := PySem.Challenge.pw_millbench_k57_posterior_of_a_sample_in_t.main.body.getD i (.Pass ⟨0, 0, 0, 0⟩)
def f_fraction : DefI := { x := "fraction", ps := ["p", "q"], N := ["p", "q", "shared"], st := topS 7, d := d_fraction }
def f_plus : DefI := { x := "plus", ps := ["a", "b"], N := ["a", "b"], st := topS 8, d := d_plus }
def f_times : DefI := { x := "times", ps := ["a", "b"], N := ["a", "b"], st := topS 9, d := d_times }
def f_over : DefI := { x := "over", ps := ["a", "b"], N := ["a", "b"], st := topS 10, d := d_over }
def f_total : DefI := { x := "total", ps := ["values"], N := ["values", "result", "value"], st := topS 11, d := d_total }
def f_check_counts : DefI := { x := "check_counts", ps := ["size", "rows"], N := ["size", "rows", "number", "limit"], st := topS 14, d := d_check_counts }
def f_ways : DefI := { x := "ways", ps := ["size", "bad", "sample", "k"], N := ["size", "bad", "sample", "k"], st := topS 15, d := d_ways }
def f_posterior : DefI := { x := "posterior", ps := ["size", "prior", "sample", "found"], N := ["size", "prior", "sample", "found", "rows", "whole", "_", "bad", "weight"], st := topS 17, d := d_posterior }
def f_law_jar : DefI := { x := "_law_jar", ps := ["script", "most"], N := ["script", "most", "found", "seed", "k", "cell", "step"], st := topS 19, d := d_law_jar }
def f_law_take : DefI := { x := "_law_take", ps := ["jar", "many"], N := ["jar", "many", "number"], st := topS 20, d := d_law_take }
def f_law_part : DefI := { x := "_law_part", ps := ["top", "bottom"], N := ["top", "bottom", "a", "b", "k", "rest"], st := topS 21, d := d_law_part }
def f_law_same : DefI := { x := "_law_same", ps := ["told", "due"], N := ["told", "due", "k"], st := topS 22, d := d_law_same }
def f_law_choose : DefI := { x := "_law_choose", ps := ["n", "k"], N := ["n", "k", "found", "step"], st := topS 23, d := d_law_choose }
def f_law_prior : DefI := { x := "_law_prior", ps := ["jar", "amount"], N := ["jar", "amount", "bad", "tight", "bottom", "rows", "k", "top"], st := topS 24, d := d_law_prior }
def f_law_due : DefI := { x := "_law_due", ps := ["amount", "prior", "sample", "found"], N := ["amount", "prior", "sample", "found", "whole", "rows", "bad", "weight", "many", "row"], st := topS 25, d := d_law_due }
def f_law_found : DefI := { x := "_law_found", ps := ["jar", "sample"], N := ["jar", "sample", "way"], st := topS 26, d := d_law_found }
def f_law : DefI := { x := "law", ps := ["script"], N := ["script", "jar", "amount", "prior", "one", "two", "found_one", "found_two", "whole", "first", "left", "second", "row"], st := topS 27, d := d_law }
def defs : List DefI := [f_fraction, f_plus, f_times, f_over, f_total, f_check_counts, f_ways, f_posterior, f_law_jar, f_law_take, f_law_part, f_law_same, f_law_choose, f_law_prior, f_law_due, f_law_found, f_law]
def p0 : PI0 := { fns := [("fraction", 2), ("plus", 2), ("times", 2), ("over", 2), ("total", 1), ("check_counts", 2), ("ways", 4), ("posterior", 4), ("_law_jar", 2), ("_law_take", 2), ("_law_part", 2), ("_law_same", 2), ("_law_choose", 2), ("_law_prior", 2), ("_law_due", 4), ("_law_found", 2), ("law", 1)], gls := ["ZERO", "MOST_SIZE"], bls := ["abs", "bool", "int", "isinstance", "len", "list", "max", "min", "range", "str", "tuple"], mts := [("comb", "math.comb"), ("gcd", "math.gcd")] }
theorem c_fraction : (f_fraction.ok p0 && scopeB f_fraction.N f_fraction.ps (defScope f_fraction.st)) = true := by decide +kernel
theorem c_plus : (f_plus.ok p0 && scopeB f_plus.N f_plus.ps (defScope f_plus.st)) = true := by decide +kernel
theorem c_times : (f_times.ok p0 && scopeB f_times.N f_times.ps (defScope f_times.st)) = true := by decide +kernel
theorem c_over : (f_over.ok p0 && scopeB f_over.N f_over.ps (defScope f_over.st)) = true := by decide +kernel
theorem c_total : (f_total.ok p0 && scopeB f_total.N f_total.ps (defScope f_total.st)) = true := by decide +kernel
theorem c_check_counts : (f_check_counts.ok p0 && scopeB f_check_counts.N f_check_counts.ps (defScope f_check_counts.st)) = true := by decide +kernel
theorem c_ways : (f_ways.ok p0 && scopeB f_ways.N f_ways.ps (defScope f_ways.st)) = true := by decide +kernel
theorem c_posterior : (f_posterior.ok p0 && scopeB f_posterior.N f_posterior.ps (defScope f_posterior.st)) = true := by decide +kernel
theorem c_law_jar : (f_law_jar.ok p0 && scopeB f_law_jar.N f_law_jar.ps (defScope f_law_jar.st)) = true := by decide +kernel
theorem c_law_take : (f_law_take.ok p0 && scopeB f_law_take.N f_law_take.ps (defScope f_law_take.st)) = true := by decide +kernel
theorem c_law_part : (f_law_part.ok p0 && scopeB f_law_part.N f_law_part.ps (defScope f_law_part.st)) = true := by decide +kernel
theorem c_law_same : (f_law_same.ok p0 && scopeB f_law_same.N f_law_same.ps (defScope f_law_same.st)) = true := by decide +kernel
theorem c_law_choose : (f_law_choose.ok p0 && scopeB f_law_choose.N f_law_choose.ps (defScope f_law_choose.st)) = true := by decide +kernel
theorem c_law_prior : (f_law_prior.ok p0 && scopeB f_law_prior.N f_law_prior.ps (defScope f_law_prior.st)) = true := by decide +kernel
theorem c_law_due : (f_law_due.ok p0 && scopeB f_law_due.N f_law_due.ps (defScope f_law_due.st)) = true := by decide +kernel
theorem c_law_found : (f_law_found.ok p0 && scopeB f_law_found.N f_law_found.ps (defScope f_law_found.st)) = true := by decide +kernel
theorem c_law : (f_law.ok p0 && scopeB f_law.N f_law.ps (defScope f_law.st)) = true := by decide +kernel
theorem chk : (defs.all fun f => f.ok p0 && scopeB f.N f.ps (defScope f.st)) = true := by
  simp only [defs, List.all_cons, List.all_nil, Bool.and_true, c_fraction, c_plus, c_times, c_over, c_total, c_check_counts, c_ways, c_posterior, c_law_jar, c_law_take, c_law_part, c_law_same, c_law_choose, c_law_prior, c_law_due, c_law_found, c_law]
theorem dfs : (fun (i : Nat) => (defs[i]?).map fun f => f.d) = fun i => irs[i]? := by
  funext i
  rw [← List.getElem?_map]
  rfl
/-- the law, 200 calls deep, for whatever holds of its pure value -/
theorem all_mk {l : PySem.W.OpenLaw} {w : World} {K : PySem.W.Frag} {h : Heap} {mg : Str → Option Value} {fa : Addr} {cl : Nat → Addr} (X : K.In h) (G : h.Ns mainGlobals mg) (hfa : mg "law" = some (.ref fa))
    {f0 : Addr} {od0 an0 : Option Addr} {sl0 : Array (Option Value)} {oc0 kV0 dc0 pm0 cd0 ct0 : Value}
    {f1 : Addr} {od1 an1 : Option Addr} {sl1 : Array (Option Value)} {oc1 kV1 dc1 pm1 cd1 ct1 : Value}
    {f2 : Addr} {od2 an2 : Option Addr} {sl2 : Array (Option Value)} {oc2 kV2 dc2 pm2 cd2 ct2 : Value}
    {f3 : Addr} {od3 an3 : Option Addr} {sl3 : Array (Option Value)} {oc3 kV3 dc3 pm3 cd3 ct3 : Value}
    {f4 : Addr} {od4 an4 : Option Addr} {sl4 : Array (Option Value)} {oc4 kV4 dc4 pm4 cd4 ct4 : Value}
    {f5 : Addr} {od5 an5 : Option Addr} {sl5 : Array (Option Value)} {oc5 kV5 dc5 pm5 cd5 ct5 : Value}
    {f6 : Addr} {od6 an6 : Option Addr} {sl6 : Array (Option Value)} {oc6 kV6 dc6 pm6 cd6 ct6 : Value}
    {f7 : Addr} {od7 an7 : Option Addr} {sl7 : Array (Option Value)} {oc7 kV7 dc7 pm7 cd7 ct7 : Value}
    {f8 : Addr} {od8 an8 : Option Addr} {sl8 : Array (Option Value)} {oc8 kV8 dc8 pm8 cd8 ct8 : Value}
    {f9 : Addr} {od9 an9 : Option Addr} {sl9 : Array (Option Value)} {oc9 kV9 dc9 pm9 cd9 ct9 : Value}
    {f10 : Addr} {od10 an10 : Option Addr} {sl10 : Array (Option Value)} {oc10 kV10 dc10 pm10 cd10 ct10 : Value}
    {f11 : Addr} {od11 an11 : Option Addr} {sl11 : Array (Option Value)} {oc11 kV11 dc11 pm11 cd11 ct11 : Value}
    {f12 : Addr} {od12 an12 : Option Addr} {sl12 : Array (Option Value)} {oc12 kV12 dc12 pm12 cd12 ct12 : Value}
    {f13 : Addr} {od13 an13 : Option Addr} {sl13 : Array (Option Value)} {oc13 kV13 dc13 pm13 cd13 ct13 : Value}
    {f14 : Addr} {od14 an14 : Option Addr} {sl14 : Array (Option Value)} {oc14 kV14 dc14 pm14 cd14 ct14 : Value}
    {f15 : Addr} {od15 an15 : Option Addr} {sl15 : Array (Option Value)} {oc15 kV15 dc15 pm15 cd15 ct15 : Value}
    {f16 : Addr} {od16 an16 : Option Addr} {sl16 : Array (Option Value)} {oc16 kV16 dc16 pm16 cd16 ct16 : Value}
    {ga0 : Addr} {gd0 : Option Addr} {gn0 : Nat} {gs0 : Array (Option Value)} {tg0_0 tg0_1 : Tok}
    {tg1 : Tok}
    (a0 : PySem.W.nsIn K mainGlobals "fraction" = some (some (.ref f0)))
    (l0 : K.lookup f0 = some ⟨oc0, od0, .func (PySem.W.fnOf "fraction" "fraction" (defArgs (topS 7)) (defBody (topS 7)) (defScope (topS 7)) .none kV0 dc0 pm0 an0 cd0 ct0), sl0⟩)
    (c0 : PySem.W.codeIn K cd0 "fraction" = true) (k0 : PySem.W.keepIn K (.ref f0) = true)
    (a1 : PySem.W.nsIn K mainGlobals "plus" = some (some (.ref f1)))
    (l1 : K.lookup f1 = some ⟨oc1, od1, .func (PySem.W.fnOf "plus" "plus" (defArgs (topS 8)) (defBody (topS 8)) (defScope (topS 8)) .none kV1 dc1 pm1 an1 cd1 ct1), sl1⟩)
    (c1 : PySem.W.codeIn K cd1 "plus" = true) (k1 : PySem.W.keepIn K (.ref f1) = true)
    (a2 : PySem.W.nsIn K mainGlobals "times" = some (some (.ref f2)))
    (l2 : K.lookup f2 = some ⟨oc2, od2, .func (PySem.W.fnOf "times" "times" (defArgs (topS 9)) (defBody (topS 9)) (defScope (topS 9)) .none kV2 dc2 pm2 an2 cd2 ct2), sl2⟩)
    (c2 : PySem.W.codeIn K cd2 "times" = true) (k2 : PySem.W.keepIn K (.ref f2) = true)
    (a3 : PySem.W.nsIn K mainGlobals "over" = some (some (.ref f3)))
    (l3 : K.lookup f3 = some ⟨oc3, od3, .func (PySem.W.fnOf "over" "over" (defArgs (topS 10)) (defBody (topS 10)) (defScope (topS 10)) .none kV3 dc3 pm3 an3 cd3 ct3), sl3⟩)
    (c3 : PySem.W.codeIn K cd3 "over" = true) (k3 : PySem.W.keepIn K (.ref f3) = true)
    (a4 : PySem.W.nsIn K mainGlobals "total" = some (some (.ref f4)))
    (l4 : K.lookup f4 = some ⟨oc4, od4, .func (PySem.W.fnOf "total" "total" (defArgs (topS 11)) (defBody (topS 11)) (defScope (topS 11)) .none kV4 dc4 pm4 an4 cd4 ct4), sl4⟩)
    (c4 : PySem.W.codeIn K cd4 "total" = true) (k4 : PySem.W.keepIn K (.ref f4) = true)
    (a5 : PySem.W.nsIn K mainGlobals "check_counts" = some (some (.ref f5)))
    (l5 : K.lookup f5 = some ⟨oc5, od5, .func (PySem.W.fnOf "check_counts" "check_counts" (defArgs (topS 14)) (defBody (topS 14)) (defScope (topS 14)) .none kV5 dc5 pm5 an5 cd5 ct5), sl5⟩)
    (c5 : PySem.W.codeIn K cd5 "check_counts" = true) (k5 : PySem.W.keepIn K (.ref f5) = true)
    (a6 : PySem.W.nsIn K mainGlobals "ways" = some (some (.ref f6)))
    (l6 : K.lookup f6 = some ⟨oc6, od6, .func (PySem.W.fnOf "ways" "ways" (defArgs (topS 15)) (defBody (topS 15)) (defScope (topS 15)) .none kV6 dc6 pm6 an6 cd6 ct6), sl6⟩)
    (c6 : PySem.W.codeIn K cd6 "ways" = true) (k6 : PySem.W.keepIn K (.ref f6) = true)
    (a7 : PySem.W.nsIn K mainGlobals "posterior" = some (some (.ref f7)))
    (l7 : K.lookup f7 = some ⟨oc7, od7, .func (PySem.W.fnOf "posterior" "posterior" (defArgs (topS 17)) (defBody (topS 17)) (defScope (topS 17)) .none kV7 dc7 pm7 an7 cd7 ct7), sl7⟩)
    (c7 : PySem.W.codeIn K cd7 "posterior" = true) (k7 : PySem.W.keepIn K (.ref f7) = true)
    (a8 : PySem.W.nsIn K mainGlobals "_law_jar" = some (some (.ref f8)))
    (l8 : K.lookup f8 = some ⟨oc8, od8, .func (PySem.W.fnOf "_law_jar" "_law_jar" (defArgs (topS 19)) (defBody (topS 19)) (defScope (topS 19)) .none kV8 dc8 pm8 an8 cd8 ct8), sl8⟩)
    (c8 : PySem.W.codeIn K cd8 "_law_jar" = true) (k8 : PySem.W.keepIn K (.ref f8) = true)
    (a9 : PySem.W.nsIn K mainGlobals "_law_take" = some (some (.ref f9)))
    (l9 : K.lookup f9 = some ⟨oc9, od9, .func (PySem.W.fnOf "_law_take" "_law_take" (defArgs (topS 20)) (defBody (topS 20)) (defScope (topS 20)) .none kV9 dc9 pm9 an9 cd9 ct9), sl9⟩)
    (c9 : PySem.W.codeIn K cd9 "_law_take" = true) (k9 : PySem.W.keepIn K (.ref f9) = true)
    (a10 : PySem.W.nsIn K mainGlobals "_law_part" = some (some (.ref f10)))
    (l10 : K.lookup f10 = some ⟨oc10, od10, .func (PySem.W.fnOf "_law_part" "_law_part" (defArgs (topS 21)) (defBody (topS 21)) (defScope (topS 21)) .none kV10 dc10 pm10 an10 cd10 ct10), sl10⟩)
    (c10 : PySem.W.codeIn K cd10 "_law_part" = true) (k10 : PySem.W.keepIn K (.ref f10) = true)
    (a11 : PySem.W.nsIn K mainGlobals "_law_same" = some (some (.ref f11)))
    (l11 : K.lookup f11 = some ⟨oc11, od11, .func (PySem.W.fnOf "_law_same" "_law_same" (defArgs (topS 22)) (defBody (topS 22)) (defScope (topS 22)) .none kV11 dc11 pm11 an11 cd11 ct11), sl11⟩)
    (c11 : PySem.W.codeIn K cd11 "_law_same" = true) (k11 : PySem.W.keepIn K (.ref f11) = true)
    (a12 : PySem.W.nsIn K mainGlobals "_law_choose" = some (some (.ref f12)))
    (l12 : K.lookup f12 = some ⟨oc12, od12, .func (PySem.W.fnOf "_law_choose" "_law_choose" (defArgs (topS 23)) (defBody (topS 23)) (defScope (topS 23)) .none kV12 dc12 pm12 an12 cd12 ct12), sl12⟩)
    (c12 : PySem.W.codeIn K cd12 "_law_choose" = true) (k12 : PySem.W.keepIn K (.ref f12) = true)
    (a13 : PySem.W.nsIn K mainGlobals "_law_prior" = some (some (.ref f13)))
    (l13 : K.lookup f13 = some ⟨oc13, od13, .func (PySem.W.fnOf "_law_prior" "_law_prior" (defArgs (topS 24)) (defBody (topS 24)) (defScope (topS 24)) .none kV13 dc13 pm13 an13 cd13 ct13), sl13⟩)
    (c13 : PySem.W.codeIn K cd13 "_law_prior" = true) (k13 : PySem.W.keepIn K (.ref f13) = true)
    (a14 : PySem.W.nsIn K mainGlobals "_law_due" = some (some (.ref f14)))
    (l14 : K.lookup f14 = some ⟨oc14, od14, .func (PySem.W.fnOf "_law_due" "_law_due" (defArgs (topS 25)) (defBody (topS 25)) (defScope (topS 25)) .none kV14 dc14 pm14 an14 cd14 ct14), sl14⟩)
    (c14 : PySem.W.codeIn K cd14 "_law_due" = true) (k14 : PySem.W.keepIn K (.ref f14) = true)
    (a15 : PySem.W.nsIn K mainGlobals "_law_found" = some (some (.ref f15)))
    (l15 : K.lookup f15 = some ⟨oc15, od15, .func (PySem.W.fnOf "_law_found" "_law_found" (defArgs (topS 26)) (defBody (topS 26)) (defScope (topS 26)) .none kV15 dc15 pm15 an15 cd15 ct15), sl15⟩)
    (c15 : PySem.W.codeIn K cd15 "_law_found" = true) (k15 : PySem.W.keepIn K (.ref f15) = true)
    (a16 : PySem.W.nsIn K mainGlobals "law" = some (some (.ref f16)))
    (l16 : K.lookup f16 = some ⟨oc16, od16, .func (PySem.W.fnOf "law" "law" (defArgs (topS 27)) (defBody (topS 27)) (defScope (topS 27)) .none kV16 dc16 pm16 an16 cd16 ct16), sl16⟩)
    (c16 : PySem.W.codeIn K cd16 "law" = true) (k16 : PySem.W.keepIn K (.ref f16) = true)
    (g0 : PySem.W.nsIn K mainGlobals "ZERO" = some (some (.ref ga0))) (gl0 : K.lookup ga0 = some ⟨.type "tuple", gd0, .seq #[.int 0 tg0_0, .int 1 tg0_1] gn0, gs0⟩)
    (g1 : PySem.W.nsIn K mainGlobals "MOST_SIZE" = some (some (.int 200 tg1)))
    (z0 : PySem.W.nsIn K mainGlobals "abs" = some none)
    (z1 : PySem.W.nsIn K mainGlobals "bool" = some none)
    (z2 : PySem.W.nsIn K mainGlobals "int" = some none)
    (z3 : PySem.W.nsIn K mainGlobals "isinstance" = some none)
    (z4 : PySem.W.nsIn K mainGlobals "len" = some none)
    (z5 : PySem.W.nsIn K mainGlobals "list" = some none)
    (z6 : PySem.W.nsIn K mainGlobals "max" = some none)
    (z7 : PySem.W.nsIn K mainGlobals "min" = some none)
    (z8 : PySem.W.nsIn K mainGlobals "range" = some none)
    (z9 : PySem.W.nsIn K mainGlobals "str" = some none)
    (z10 : PySem.W.nsIn K mainGlobals "tuple" = some none)
    (m0 : PySem.W.nsIn K mainGlobals "comb" = some (some (.builtin "math.comb")))
    (m1 : PySem.W.nsIn K mainGlobals "gcd" = some (some (.builtin "math.gcd"))) :
    ∃ fd : FuncData, (∀ (s : Shared) (u : Value), BindsTo s fd ⟨[u], []⟩ [("script", u)]) ∧ ∀ base : Heap, K.In base → base.Ns mainGlobals mg → FnOk l.prog w K mg base (L2.CX l.prog w) LV fa fd ["script"] (spOf K cl 1 (T LV 16)) := by
  have D0 : ∃ fa fd, DefAt K mg f_fraction fa fd := by
    have F := fun_mk (st := topS 7) l0 c0 k0
    exact ⟨_, _, ⟨_, F⟩, PySem.W.mg_of X G a0, F.binds (ps := ["p", "q"]) fun _ _ _ _ _ _ us hl => match us, hl with | [_, _], _ => rfl⟩
  have D1 : ∃ fa fd, DefAt K mg f_plus fa fd := by
    have F := fun_mk (st := topS 8) l1 c1 k1
    exact ⟨_, _, ⟨_, F⟩, PySem.W.mg_of X G a1, F.binds (ps := ["a", "b"]) fun _ _ _ _ _ _ us hl => match us, hl with | [_, _], _ => rfl⟩
  have D2 : ∃ fa fd, DefAt K mg f_times fa fd := by
    have F := fun_mk (st := topS 9) l2 c2 k2
    exact ⟨_, _, ⟨_, F⟩, PySem.W.mg_of X G a2, F.binds (ps := ["a", "b"]) fun _ _ _ _ _ _ us hl => match us, hl with | [_, _], _ => rfl⟩
  have D3 : ∃ fa fd, DefAt K mg f_over fa fd := by
    have F := fun_mk (st := topS 10) l3 c3 k3
    exact ⟨_, _, ⟨_, F⟩, PySem.W.mg_of X G a3, F.binds (ps := ["a", "b"]) fun _ _ _ _ _ _ us hl => match us, hl with | [_, _], _ => rfl⟩
  have D4 : ∃ fa fd, DefAt K mg f_total fa fd := by
    have F := fun_mk (st := topS 11) l4 c4 k4
    exact ⟨_, _, ⟨_, F⟩, PySem.W.mg_of X G a4, F.binds (ps := ["values"]) fun _ _ _ _ _ _ us hl => match us, hl with | [_], _ => rfl⟩
  have D5 : ∃ fa fd, DefAt K mg f_check_counts fa fd := by
    have F := fun_mk (st := topS 14) l5 c5 k5
    exact ⟨_, _, ⟨_, F⟩, PySem.W.mg_of X G a5, F.binds (ps := ["size", "rows"]) fun _ _ _ _ _ _ us hl => match us, hl with | [_, _], _ => rfl⟩
  have D6 : ∃ fa fd, DefAt K mg f_ways fa fd := by
    have F := fun_mk (st := topS 15) l6 c6 k6
    exact ⟨_, _, ⟨_, F⟩, PySem.W.mg_of X G a6, F.binds (ps := ["size", "bad", "sample", "k"]) fun _ _ _ _ _ _ us hl => match us, hl with | [_, _, _, _], _ => rfl⟩
  have D7 : ∃ fa fd, DefAt K mg f_posterior fa fd := by
    have F := fun_mk (st := topS 17) l7 c7 k7
    exact ⟨_, _, ⟨_, F⟩, PySem.W.mg_of X G a7, F.binds (ps := ["size", "prior", "sample", "found"]) fun _ _ _ _ _ _ us hl => match us, hl with | [_, _, _, _], _ => rfl⟩
  have D8 : ∃ fa fd, DefAt K mg f_law_jar fa fd := by
    have F := fun_mk (st := topS 19) l8 c8 k8
    exact ⟨_, _, ⟨_, F⟩, PySem.W.mg_of X G a8, F.binds (ps := ["script", "most"]) fun _ _ _ _ _ _ us hl => match us, hl with | [_, _], _ => rfl⟩
  have D9 : ∃ fa fd, DefAt K mg f_law_take fa fd := by
    have F := fun_mk (st := topS 20) l9 c9 k9
    exact ⟨_, _, ⟨_, F⟩, PySem.W.mg_of X G a9, F.binds (ps := ["jar", "many"]) fun _ _ _ _ _ _ us hl => match us, hl with | [_, _], _ => rfl⟩
  have D10 : ∃ fa fd, DefAt K mg f_law_part fa fd := by
    have F := fun_mk (st := topS 21) l10 c10 k10
    exact ⟨_, _, ⟨_, F⟩, PySem.W.mg_of X G a10, F.binds (ps := ["top", "bottom"]) fun _ _ _ _ _ _ us hl => match us, hl with | [_, _], _ => rfl⟩
  have D11 : ∃ fa fd, DefAt K mg f_law_same fa fd := by
    have F := fun_mk (st := topS 22) l11 c11 k11
    exact ⟨_, _, ⟨_, F⟩, PySem.W.mg_of X G a11, F.binds (ps := ["told", "due"]) fun _ _ _ _ _ _ us hl => match us, hl with | [_, _], _ => rfl⟩
  have D12 : ∃ fa fd, DefAt K mg f_law_choose fa fd := by
    have F := fun_mk (st := topS 23) l12 c12 k12
    exact ⟨_, _, ⟨_, F⟩, PySem.W.mg_of X G a12, F.binds (ps := ["n", "k"]) fun _ _ _ _ _ _ us hl => match us, hl with | [_, _], _ => rfl⟩
  have D13 : ∃ fa fd, DefAt K mg f_law_prior fa fd := by
    have F := fun_mk (st := topS 24) l13 c13 k13
    exact ⟨_, _, ⟨_, F⟩, PySem.W.mg_of X G a13, F.binds (ps := ["jar", "amount"]) fun _ _ _ _ _ _ us hl => match us, hl with | [_, _], _ => rfl⟩
  have D14 : ∃ fa fd, DefAt K mg f_law_due fa fd := by
    have F := fun_mk (st := topS 25) l14 c14 k14
    exact ⟨_, _, ⟨_, F⟩, PySem.W.mg_of X G a14, F.binds (ps := ["amount", "prior", "sample", "found"]) fun _ _ _ _ _ _ us hl => match us, hl with | [_, _, _, _], _ => rfl⟩
  have D15 : ∃ fa fd, DefAt K mg f_law_found fa fd := by
    have F := fun_mk (st := topS 26) l15 c15 k15
    exact ⟨_, _, ⟨_, F⟩, PySem.W.mg_of X G a15, F.binds (ps := ["jar", "sample"]) fun _ _ _ _ _ _ us hl => match us, hl with | [_, _], _ => rfl⟩
  have D16 : ∃ fa fd, DefAt K mg f_law fa fd := by
    have F := fun_mk (st := topS 27) l16 c16 k16
    exact ⟨_, _, ⟨_, F⟩, PySem.W.mg_of X G a16, F.binds (ps := ["script"]) fun _ _ _ _ _ _ us hl => match us, hl with | [_], _ => rfl⟩
  have hfn : ∀ f ∈ defs, ∃ fa fd, DefAt K mg f fa fd := by
    intro f hf
    simp only [defs, List.mem_cons, List.not_mem_nil, or_false] at hf
    rcases hf with rfl | rfl | rfl | rfl | rfl | rfl | rfl | rfl | rfl | rfl | rfl | rfl | rfl | rfl | rfl | rfl | rfl
    · exact D0
    · exact D1
    · exact D2
    · exact D3
    · exact D4
    · exact D5
    · exact D6
    · exact D7
    · exact D8
    · exact D9
    · exact D10
    · exact D11
    · exact D12
    · exact D13
    · exact D14
    · exact D15
    · exact D16
  have gl : ∀ (g : Nat) (x : Str), p0.gls[g]? = some x → ∃ (u : Value) (v : V), mg x = some u ∧ RelV v u ∧ ∀ H θ, RV K H θ (γ g) v := by
    intro g x hx
    match g, hx with
    | 0, hx =>
      cases hx
      exact ⟨_, .ref ga0, PySem.W.mg_of X G g0, rfl, fun H θ => .tup' (vs := [V.int 0, V.int 1]) (.inr ⟨_, _, _, gl0, rfl, rfl, by show 2 ≤ sizeLine; decide, (.cons ⟨_, rfl⟩ (.cons ⟨_, rfl⟩ .nil))⟩) (.cons (.int _) (.cons (.int _) .nil))⟩
    | 1, hx =>
      cases hx
      exact ⟨_, .int 200, PySem.W.mg_of X G g1, ⟨_, rfl⟩, fun H θ => .int _⟩
    | g + 2, hx => simp [p0] at hx
  have bl : ∀ x ∈ p0.bls, mg x = none := by
    intro x hx
    simp only [p0, List.mem_cons, List.not_mem_nil, or_false] at hx
    rcases hx with rfl | rfl | rfl | rfl | rfl | rfl | rfl | rfl | rfl | rfl | rfl
    · exact PySem.W.mg_none_of X G z0
    · exact PySem.W.mg_none_of X G z1
    · exact PySem.W.mg_none_of X G z2
    · exact PySem.W.mg_none_of X G z3
    · exact PySem.W.mg_none_of X G z4
    · exact PySem.W.mg_none_of X G z5
    · exact PySem.W.mg_none_of X G z6
    · exact PySem.W.mg_none_of X G z7
    · exact PySem.W.mg_none_of X G z8
    · exact PySem.W.mg_none_of X G z9
    · exact PySem.W.mg_none_of X G z10
  have mt : ∀ x id, (x, id) ∈ p0.mts → mg x = some (.builtin id) := by
    intro x id hx
    simp only [p0, List.mem_cons, List.not_mem_nil, or_false, Prod.mk.injEq] at hx
    rcases hx with ⟨rfl, rfl⟩ | ⟨rfl, rfl⟩
    · exact PySem.W.mg_of X G m0
    · exact PySem.W.mg_of X G m1
  have e := hfa.symm.trans (PySem.W.mg_of X G a16)
  cases e
  refine ⟨PySem.W.fnOf "law" "law" (defArgs (topS 27)) (defBody (topS 27)) (defScope (topS 27)) .none kV16 dc16 pm16 an16 cd16 ct16, fun s v => .of_eq rfl, fun base XB GB => ?_⟩
  have F := fun_mk (st := topS 27) l16 c16 k16
  have pf := prog_ok (P := l.prog) (w := w) (base := base) (cl := cl) (γ := γ) defs rfl chk hfn gl bl mt (LV - 1)
  rw [dfs] at pf
  have hc := List.all_eq_true.mp chk f_law (by simp [defs])
  simp only [Bool.and_eq_true] at hc
  exact fun_ok (f := f_law) pf hc.1 hc.2 F
end K57
end SK57C
set_option Elab.async false
set_option linter.all false
set_option maxRecDepth 100000
open PySem PySem.W PyProof.Rows
set_option maxHeartbeats 0 in
theorem PySem.Challenge.cw_millbench_k57_posterior_of_a_sample_in_t_holds : PySem.Challenge.rw_millbench_k57_posterior_of_a_sample_in_t.Holds := by
  w_on; o_law; k_head; (case hw => w_witness2)
  k_fill
  refine L2.walk_of (l := PySem.Challenge.rw_millbench_k57_posterior_of_a_sample_in_t) (n := 63) (k := K57.LV) (x := "script") (CX := fun w => L2.CX PySem.Challenge.rw_millbench_k57_posterior_of_a_sample_in_t.prog w) (sp := fun w => Pv.spOf _ (fun _ => 0) 1 (K57.T K57.LV 16)) rfl (by decide) rfl ⟨rfl, by decide, by decide⟩ (fun w h Y => PySem.W.kIn_of Y) ?F (fun w H a ns hl hO hS => Pv.law_sp hO hS (K57.pure_law ns hl)) (fun w H s e s' h => Pv.noCX H s e s' h)
  case F =>
    intro w mg fa h KX G hmg
    refine' K57.all_mk KX G hmg ?a0 ?l0 ?c0 ?k0 ?a1 ?l1 ?c1 ?k1 ?a2 ?l2 ?c2 ?k2 ?a3 ?l3 ?c3 ?k3 ?a4 ?l4 ?c4 ?k4 ?a5 ?l5 ?c5 ?k5 ?a6 ?l6 ?c6 ?k6 ?a7 ?l7 ?c7 ?k7 ?a8 ?l8 ?c8 ?k8 ?a9 ?l9 ?c9 ?k9 ?a10 ?l10 ?c10 ?k10 ?a11 ?l11 ?c11 ?k11 ?a12 ?l12 ?c12 ?k12 ?a13 ?l13 ?c13 ?k13 ?a14 ?l14 ?c14 ?k14 ?a15 ?l15 ?c15 ?k15 ?a16 ?l16 ?c16 ?k16 ?g0 ?gl0 ?g1 ?z0 ?z1 ?z2 ?z3 ?z4 ?z5 ?z6 ?z7 ?z8 ?z9 ?z10 ?m0 ?m1
    (case a0 => k_is)
    (case l0 => k_is)
    (case c0 => k_is)
    (case k0 => k_is)
    (case a1 => k_is)
    (case l1 => k_is)
    (case c1 => k_is)
    (case k1 => k_is)
    (case a2 => k_is)
    (case l2 => k_is)
    (case c2 => k_is)
    (case k2 => k_is)
    (case a3 => k_is)
    (case l3 => k_is)
    (case c3 => k_is)
    (case k3 => k_is)
    (case a4 => k_is)
    (case l4 => k_is)
    (case c4 => k_is)
    (case k4 => k_is)
    (case a5 => k_is)
    (case l5 => k_is)
    (case c5 => k_is)
    (case k5 => k_is)
    (case a6 => k_is)
    (case l6 => k_is)
    (case c6 => k_is)
    (case k6 => k_is)
    (case a7 => k_is)
    (case l7 => k_is)
    (case c7 => k_is)
    (case k7 => k_is)
    (case a8 => k_is)
    (case l8 => k_is)
    (case c8 => k_is)
    (case k8 => k_is)
    (case a9 => k_is)
    (case l9 => k_is)
    (case c9 => k_is)
    (case k9 => k_is)
    (case a10 => k_is)
    (case l10 => k_is)
    (case c10 => k_is)
    (case k10 => k_is)
    (case a11 => k_is)
    (case l11 => k_is)
    (case c11 => k_is)
    (case k11 => k_is)
    (case a12 => k_is)
    (case l12 => k_is)
    (case c12 => k_is)
    (case k12 => k_is)
    (case a13 => k_is)
    (case l13 => k_is)
    (case c13 => k_is)
    (case k13 => k_is)
    (case a14 => k_is)
    (case l14 => k_is)
    (case c14 => k_is)
    (case k14 => k_is)
    (case a15 => k_is)
    (case l15 => k_is)
    (case c15 => k_is)
    (case k15 => k_is)
    (case a16 => k_is)
    (case l16 => k_is)
    (case c16 => k_is)
    (case k16 => k_is)
    (case g0 => k_is)
    (case gl0 => k_is)
    (case g1 => k_is)
    (case z0 => k_is)
    (case z1 => k_is)
    (case z2 => k_is)
    (case z3 => k_is)
    (case z4 => k_is)
    (case z5 => k_is)
    (case z6 => k_is)
    (case z7 => k_is)
    (case z8 => k_is)
    (case z9 => k_is)
    (case z10 => k_is)
    (case m0 => k_is)
    (case m1 => k_is)
