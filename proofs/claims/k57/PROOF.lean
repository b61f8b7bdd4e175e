import PyProof.Rows.All
import Wide.All
import OpenK.AllK
import Wide.FinOn
import HandS.ForMost
import HandS.ForExc
import HandS.Zip
import HandS.EndTab
import HandS.Deep
import HandS.DeepEq
import HandS.TupAny
import HandS.TupMul
import HandS.TupLe
import HandS.SortInts
import HandS.Wide
import HandS.Flow
import HandS.ExcCtx
import HandS.WideBits
import HandS.SortRule
import PyProof.ReprRoads
import HandS.Star
import HandS.Hot
import HandS.HotCalls
import HandS.NestedHot
import HandS.ExcIs
import HandS.ExcOwn
import HandS.Lambda
import HandS.Rev
import HandS.Style
import HandS.WordsExc
import HandS.HeadHook4
import KE.BitLaws
import KE.OsArith
import HandS.Head0
import HandS.Head1
import HandS.Head2
import HandS.HeadEnd
import HandS.HeadWalk
import PySem.Challenge.RW_rivalwise_k57_whole_mixed_days
set_option Elab.async false
set_option Elab.async false
set_option linter.all false
namespace SE
open PySem
abbrev D := PyData
/-- a slot: not set; a value (p: pinned, a parameter's object that was given away); an object of the slot's own (p: a parameter's, l: locked by a loop) -/
inductive Sl where
  | un
  | va (p : Bool) (d : D)
  | ow (p l : Bool) (d : D)
abbrev Env := List Sl
/-- what an expression gives: a value; a new list or dict that nobody else holds; the object of a slot -/
inductive R where
  | va (d : D)
  | nw (d : D)
  | sl (i : Nat)
/-- an own exception: its class by name, what its __init__ got -/
structure Exn where
  cls : Str
  args : List D
inductive Out (α : Type) where
  | ok (a : α) (r : Env)
  | ex (e : Exn) (r : Env)
  | bad
def Out.bind {α β : Type} (x : Out α) (f : α → Env → Out β) : Out β :=
  match x with
  | .ok a r => f a r
  | .ex e r => .ex e r
  | .bad => .bad
@[simp] theorem bind_ok {α β : Type} (a : α) (r : Env) (f : α → Env → Out β) : (Out.ok a r).bind f = f a r := of_eq_true (eq_true rfl)
@[simp] theorem bind_ex {α β : Type} (e : Exn) (r : Env) (f : α → Env → Out β) : (Out.ex e r : Out α).bind f = .ex e r := of_eq_true (eq_true rfl)
@[simp] theorem bind_bad {α β : Type} (f : α → Env → Out β) : (Out.bad : Out α).bind f = .bad := of_eq_true (eq_true rfl)
abbrev DE := Env → Out R
abbrev DT := Env → Out Bool
/-- items, given away | arguments as they are -/
abbrev DA := Env → Out (List D)
abbrev DR := Env → Out (List R)
/-- a part of a slice -/
abbrev DO := Env → Out (Option Int)
/-- what is walked: the items, the slot to be locked -/
abbrev DI := Env → Out (List D × Option Nat)
inductive SOut where
  | nx (r : Env)
  | bk (r : Env)
  | ct (r : Env)
  | rt (v : R) (r : Env)
  | ex (e : Exn) (r : Env)
  | bad
abbrev DS := Env → SOut
/-- a def: from its arguments (values, objects that may be changed) to its value and to what became of the arguments -/
abbrev Fn := List Sl → Out R

def der (r : Env) : R → Option D
  | .va d => some d
  | .nw d => some d
  | .sl i => match r[i]? with
    | some (.ow _ _ d) => some d
    | some (.va _ d) => some d
    | _ => none
def esc (r : Env) : R → Option (D × Env)
  | .va d => some (d, r)
  | .nw d => some (d, r)
  | .sl i => match r[i]? with
    | some (.ow p false d) => some (d, r.set i (.va p d))
    | some (.va _ d) => some (d, r)
    | _ => none
def lim : Nat := 16777216
def lst (r : R) : Option R := some r

def dVar (i : Nat) : DE := fun r => match r[i]? with
  | some (.va _ d) => .ok (.va d) r
  | some (.ow _ _ _) => .ok (.sl i) r
  | _ => .bad
def dC (d : D) : DE := fun r => .ok (.va d) r
def opt {α : Type} (o : Option α) (r : Env) : Out α := match o with
  | some a => .ok a r
  | none => .bad
@[simp] theorem opt_some {α : Type} (a : α) (r : Env) : opt (some a) r = .ok a r := rfl
@[simp] theorem opt_none {α : Type} (r : Env) : opt (none : Option α) r = .bad := rfl
def dOp (f : D → D → Option R) (a b : DE) : DE := fun r => (a r).bind fun x r1 => (b r1).bind fun y r2 =>
  opt ((der r2 x).bind fun u => (der r2 y).bind fun v => f u v) r2
def dUn (f : D → Option R) (a : DE) : DE := fun r => (a r).bind fun x r1 => opt ((der r1 x).bind f) r1
/-- arguments, each as it is -/
def rNil : DR := fun r => .ok [] r
def rCons (a : DE) (t : DR) : DR := fun r => (a r).bind fun x r1 => (t r1).bind fun xs r2 => .ok (x :: xs) r2
def ders (r : Env) : List R → Option (List D)
  | [] => some []
  | x :: xs => (der r x).bind fun d => (ders r xs).bind fun ds => some (d :: ds)
/-- a built-in function -/
def dB (f : List D → Option R) (t : DR) : DE := fun r => (t r).bind fun xs r1 => opt ((ders r1 xs).bind f) r1
/-- items of a display -/
def aNil : DA := fun r => .ok [] r
def aCons (a : DE) (t : DA) : DA := fun r => (a r).bind fun x r1 => match esc r1 x with
  | some (d, r2) => (t r2).bind fun ds r3 => .ok (d :: ds) r3
  | none => .bad
def items : D → Option (List D)
  | .list xs => some xs
  | .tuple xs => some xs
  | _ => none
def aStar (a : DE) (t : DA) : DA := fun r => (a r).bind fun x r1 => match (der r1 x).bind items with
  | some ds => (t r1).bind fun es r2 => .ok (ds ++ es) r2
  | none => .bad
def dTup (t : DA) : DE := fun r => (t r).bind fun ds r1 => if ds.length ≤ lim then .ok (.va (.tuple ds)) r1 else .bad
def dLst (t : DA) : DE := fun r => (t r).bind fun ds r1 => if ds.length ≤ lim then .ok (.nw (.list ds)) r1 else .bad
def truth : D → Option Bool
  | .none => some false
  | .bool b => some b
  | .int i => some (i != 0)
  | .str s => if s.length ≤ lim then some (s.length != 0) else none
  | .list xs => some (!xs.isEmpty)
  | .tuple xs => some (!xs.isEmpty)
  | .dict _ => none
def tVal (a : DE) : DT := fun r => (a r).bind fun x r1 => opt ((der r1 x).bind truth) r1
def tNot (t : DT) : DT := fun r => (t r).bind fun b r1 => .ok (!b) r1
def tAnd (t u : DT) : DT := fun r => (t r).bind fun b r1 => if b = true then u r1 else .ok false r1
def tOr (t u : DT) : DT := fun r => (t r).bind fun b r1 => if b = true then .ok true r1 else u r1
def asB : D → Option Bool
  | .bool b => some b
  | _ => none
/-- and, or, not as values -/
def dAnd (a b : DE) : DE := fun r => (a r).bind fun x r1 => (opt ((der r1 x).bind asB) r1).bind fun c r2 => if c = true then b r2 else .ok (.va (.bool false)) r2
def dOr (a b : DE) : DE := fun r => (a r).bind fun x r1 => (opt ((der r1 x).bind asB) r1).bind fun c r2 => if c = true then .ok (.va (.bool true)) r2 else b r2
def dNot (a : DE) : DE := fun r => (a r).bind fun x r1 => (opt ((der r1 x).bind truth) r1).bind fun c r2 => .ok (.va (.bool (!c))) r2
def dIf (t : DT) (a b : DE) : DE := fun r => (t r).bind fun c r1 => if c = true then a r1 else b r1
/-- a op b op' c -/
def dChain (f g : D → D → Option R) (a b c : DE) : DE := fun r => (a r).bind fun x r1 => (b r1).bind fun y r2 =>
  (opt ((der r2 x).bind fun u => (der r2 y).bind fun v => (f u v).bind fun z => (der r2 z).bind asB) r2).bind fun k r3 =>
    if k = true then (c r3).bind fun z r4 => opt ((der r4 y).bind fun v => (der r4 z).bind fun w => g v w) r4 else .ok (.va (.bool false)) r3
def oNone : DO := fun r => .ok none r
def asI : D → Option Int
  | .int i => some i
  | _ => none
def oSome (a : DE) : DO := fun r => (a r).bind fun x r1 => opt (((der r1 x).bind asI).map some) r1
def dSl (f : D → Option Int → Option Int → Option R) (a : DE) (lo hi : DO) : DE := fun r => (a r).bind fun x r1 => (lo r1).bind fun l r2 => (hi r2).bind fun h r3 =>
  opt ((der r3 x).bind fun d => f d l h) r3

def store (i : Nat) (s : Sl) (r : Env) : Option Env := match r[i]? with
  | some .un => some (r.set i s)
  | some (.va false _) => some (r.set i s)
  | some (.ow false false _) => some (r.set i s)
  | _ => none
inductive Pat where
  | v (i : Nat)
  | t (ps : List Pat)
mutual
def put : Pat → D → Env → Option Env
  | .v i, d, r => store i (.va false d) r
  | .t ps, .tuple ds, r => puts ps ds r
  | .t _, _, _ => none
def puts : List Pat → List D → Env → Option Env
  | [], [], r => some r
  | p :: ps, d :: ds, r => (put p d r).bind fun r1 => puts ps ds r1
  | _, _, _ => none
end

def iSeq (a : DE) : DI := fun r => (a r).bind fun x r1 => match (der r1 x).bind items with
  | none => .bad
  | some ds => match x with
    | .sl i => match r1[i]? with
      | some (.ow _ false _) => .ok (ds, some i) r1
      | some (.ow _ true _) => .ok (ds, none) r1
      | some (.va _ _) => .ok (ds, none) r1
      | _ => .bad
    | _ => .ok (ds, none) r1
def rng (lo : Int) (n : Nat) : List D := (List.range n).map fun (k : Nat) => PyData.int (lo + (k : Int))
def big62 : Int := 4611686018427387904
def iRng1 (a : DE) : DI := fun r => (a r).bind fun x r1 => match (der r1 x).bind asI with
  | some n => if -big62 ≤ n ∧ n < big62 then .ok (rng 0 n.toNat, none) r1 else .bad
  | none => .bad
def iRng2 (a b : DE) : DI := fun r => (a r).bind fun x r1 => (b r1).bind fun y r2 => match (der r2 x).bind asI, (der r2 y).bind asI with
  | some m, some n => if (-big62 ≤ m ∧ m < big62) ∧ -big62 ≤ n ∧ n < big62 then .ok (rng m (n - m).toNat, none) r2 else .bad
  | _, _ => .bad
def lock (i : Option Nat) (r : Env) : Env := match i with
  | none => r
  | some i => match r[i]? with
    | some (.ow p _ d) => r.set i (.ow p true d)
    | _ => r
def unlock (i : Option Nat) (r : Env) : Env := match i with
  | none => r
  | some i => match r[i]? with
    | some (.ow p _ d) => r.set i (.ow p false d)
    | _ => r
def SOut.map (f : Env → Env) : SOut → SOut
  | .nx r => .nx (f r)
  | .bk r => .bk (f r)
  | .ct r => .ct (f r)
  | .rt v r => .rt v (f r)
  | .ex e r => .ex e (f r)
  | .bad => .bad
def forL (p : Pat) (b : DS) : List D → Env → SOut
  | [], r => .nx r
  | d :: ds, r => match put p d r with
    | none => .bad
    | some r1 => match b r1 with
      | .nx r2 => forL p b ds r2
      | .ct r2 => forL p b ds r2
      | .bk r2 => .nx r2
      | .rt v r2 => .rt v r2
      | .ex e r2 => .ex e r2
      | .bad => .bad
def sFor (it : DI) (p : Pat) (b : DS) : DS := fun r => match it r with
  | .ok (ds, lk) r1 => (forL p b ds (lock lk r1)).map (unlock lk)
  | .ex e r1 => .ex e r1
  | .bad => .bad
def whileL (t : DT) (b : DS) : Nat → Env → SOut
  | 0, _ => .bad
  | n + 1, r => match t r with
    | .ok true r1 => match b r1 with
      | .nx r2 => whileL t b n r2
      | .ct r2 => whileL t b n r2
      | .bk r2 => .nx r2
      | .rt v r2 => .rt v r2
      | .ex e r2 => .ex e r2
      | .bad => .bad
    | .ok false r1 => .nx r1
    | .ex e r1 => .ex e r1
    | .bad => .bad
def turns : Nat := 1000000000
def sWhile (t : DT) (b : DS) : DS := fun r => whileL t b turns r
/-- a comprehension's own slots -/
def wipeE : List Nat → Env → Env
  | [], r => r
  | v :: vs, r => (wipeE vs r).set v .un
def backE (r0 : Env) : List Nat → Env → Env
  | [], r => r
  | v :: vs, r => match r0[v]? with
    | some s => (backE r0 vs r).set v s
    | none => backE r0 vs r
def notOw (r : Env) (i : Nat) : Bool := match r[i]? with
  | some .un => true
  | some (.va _ _) => true
  | _ => false
def lcL (vs : List Nat) (p : Pat) (t : DT) (e : DE) : List D → Env → List D → Out (List D)
  | [], r, acc => .ok acc.reverse r
  | d :: ds, r, acc => match put p d (wipeE vs r) with
    | none => .bad
    | some r1 => match t r1 with
      | .ok true r2 => match e r2 with
        | .ok x r3 => match esc r3 x with
          | some (z, r4) => lcL vs p t e ds r4 (z :: acc)
          | none => .bad
        | _ => .bad
      | .ok false r2 => lcL vs p t e ds r2 acc
      | _ => .bad
/-- [e for p in it if t], vs: the block's own slots -/
def dLc (vs : List Nat) (it : DI) (p : Pat) (t : DT) (e : DE) : DE := fun r => (it r).bind fun q r1 =>
  if vs.all (notOw r1) = true then match lcL vs p t e q.1 (wipeE vs (lock q.2 r1)) [] with
    | .ok xs r2 => if xs.length ≤ lim then .ok (.nw (.list xs)) (unlock q.2 (backE r1 vs r2)) else .bad
    | _ => .bad
  else .bad
def tYes : DT := fun r => .ok true r

def sNext : DS := fun r => .nx r
def sBreak : DS := fun r => .bk r
def sCont : DS := fun r => .ct r
def sSeq (a b : DS) : DS := fun r => match a r with
  | .nx r1 => b r1
  | o => o
def Out.st {α : Type} (x : Out α) (f : α → Env → SOut) : SOut := match x with
  | .ok a r => f a r
  | .ex e r => .ex e r
  | .bad => .bad
@[simp] theorem st_ok {α : Type} (a : α) (r : Env) (f : α → Env → SOut) : (Out.ok a r).st f = f a r := of_eq_true (eq_true rfl)
@[simp] theorem st_ex {α : Type} (e : Exn) (r : Env) (f : α → Env → SOut) : (Out.ex e r : Out α).st f = .ex e r := of_eq_true (eq_true rfl)
@[simp] theorem st_bad {α : Type} (f : α → Env → SOut) : (Out.bad : Out α).st f = .bad := of_eq_true (eq_true rfl)
def nxt (o : Option Env) : SOut := match o with
  | some r => .nx r
  | none => .bad
def sIf (t : DT) (a b : DS) : DS := fun r => (t r).st fun c r1 => if c = true then a r1 else b r1
/-- x = e; m: x is changed in place somewhere in the def -/
def sAsg (m : Bool) (i : Nat) (e : DE) : DS := fun r => (e r).st fun x r1 => match x, m with
  | .nw d, true => nxt (store i (.ow false false d) r1)
  | x, _ => nxt ((esc r1 x).bind fun (d, r2) => store i (.va false d) r2)
def sPat (p : Pat) (e : DE) : DS := fun r => (e r).st fun x r1 => nxt ((esc r1 x).bind fun (d, r2) => put p d r2)
/-- a, b = x, y -/
def sPar (is : List Nat) (t : DA) : DS := fun r => (t r).st fun ds r1 => nxt (puts (is.map Pat.v) ds r1)
def sDrop (e : DE) : DS := fun r => (e r).st fun _ r1 => .nx r1
def sRet (e : DE) : DS := fun r => (e r).st fun x r1 => .rt x r1
def sRetN : DS := fun r => .rt (.va .none) r
def sRaise (c : Str) : DS := fun r => .ex ⟨c, []⟩ r
/-- x.append(e) and its like: the slot's object becomes another -/
def chg (i : Nat) (f : D → Option D) (r : Env) : Option Env := match r[i]? with
  | some (.ow p false d) => (f d).map fun d' => r.set i (.ow p false d')
  | _ => none
/-- x.m(e), dropped; the argument is given away -/
def sMeth (i : Nat) (f : D → D → Option D) (e : DE) : DS := fun r => (e r).st fun x r1 => nxt ((esc r1 x).bind fun (d, r2) => chg i (fun o => f o d) r2)
/-- x[k] = e -/
def sSet (i : Nat) (f : D → D → D → Option D) (k e : DE) : DS := fun r => (e r).st fun x r1 => match esc r1 x with
  | some (d, r2) => (k r2).st fun y r3 => nxt ((der r3 y).bind fun kd => chg i (fun o => f o kd d) r3)
  | none => .bad

def inn : Sl → Sl
  | .va _ d => .va false d
  | .ow _ l d => .ow true l d
  | .un => .un
def outs1 : Sl → Sl → Sl
  | .ow p l _, .ow _ _ d => .ow p l d
  | .ow p _ _, .va _ d => .va p d
  | s, _ => s
/-- what became of the arguments as -/
def outs : List Sl → Env → List Sl
  | [], _ => []
  | a :: as, s :: r => outs1 a s :: outs as r
  | a :: as, [] => a :: outs as []
def retR (r : Env) : R → Option (R × Env)
  | .va d => some (.va d, r)
  | .nw d => some (.nw d, r)
  | .sl i => match r[i]? with
    | some (.ow false false d) => some (.nw d, r.set i .un)
    | some (.ow true false d) => some (.va d, r.set i (.va true d))
    | some (.va _ d) => some (.va d, r)
    | _ => none
def mkFn (np nl : Nat) (body : DS) : Fn := fun as =>
  if as.length = np then match body (as.map inn ++ List.replicate (nl - np) .un) with
    | .nx r => .ok (.va .none) (outs as r)
    | .rt x r => match retR r x with
      | some (v, r') => .ok v (outs as r')
      | none => .bad
    | .ex e r => .ex e (outs as r)
    | _ => .bad
  else .bad
def argOf (r : Env) : R → Option Sl
  | .va d => some (.va false d)
  | .nw d => some (.va false d)
  | .sl i => match r[i]? with
    | some (.ow _ l d) => some (.ow false l d)
    | some (.va _ d) => some (.va false d)
    | _ => none
def argsOf (r : Env) : List R → Option (List Sl)
  | [] => some []
  | x :: xs => (argOf r x).bind fun a => (argsOf r xs).bind fun as => some (a :: as)
/-- the slots that are handed over with their objects -/
def slsOf (r : Env) : List R → List Nat
  | [] => []
  | .sl i :: xs => match r[i]? with
    | some (.ow _ _ _) => i :: slsOf r xs
    | _ => slsOf r xs
  | _ :: xs => slsOf r xs
def wb1 (r : Env) : R → Sl → Env
  | .sl i, .ow _ _ d => match r[i]? with
    | some (.ow p l _) => r.set i (.ow p l d)
    | _ => r
  | .sl i, .va _ d => match r[i]? with
    | some (.ow p _ _) => r.set i (.va p d)
    | _ => r
  | _, _ => r
def wb (r : Env) : List R → List Sl → Env
  | x :: xs, a :: as => wb (wb1 r x a) xs as
  | _, _ => r
def callF (F : Fn) (xs : List R) (r : Env) : Out R := match argsOf r xs with
  | some as => if (slsOf r xs).Nodup then match F as with
      | .ok (.va d) as' => .ok (.va d) (wb r xs as')
      | .ok (.nw d) as' => .ok (.nw d) (wb r xs as')
      | .ok (.sl _) _ => .bad
      | .ex e as' => .ex e (wb r xs as')
      | .bad => .bad
    else .bad
  | none => .bad
def dCall (F : Fn) (t : DR) : DE := fun r => (t r).bind fun xs r1 => callF F xs r1
end SE
set_option Elab.async false
set_option linter.all false
set_option maxRecDepth 100000
namespace SE
open PySem L2

def Out.aft {α : Type} (x : Out α) (P : α → Env → Prop) (E : Exn → Env → Prop) : Prop := match x with
  | .ok a r => P a r
  | .ex e r => E e r
  | .bad => False
theorem aft_bind {α β : Type} {x : Out α} {f : α → Env → Out β} {P : β → Env → Prop} {E : Exn → Env → Prop} (h : (x.bind f).aft P E) : x.aft (fun a r => (f a r).aft P E) E := by
  cases x <;> exact h
theorem aft_mono {α : Type} {x : Out α} {P P' : α → Env → Prop} {E E' : Exn → Env → Prop} (h : x.aft P E) (hP : ∀ a r, P a r → P' a r) (hE : ∀ e r, E e r → E' e r) : x.aft P' E' := by
  cases x with
  | ok a r => exact hP a r h
  | ex e r => exact hE e r h
  | bad => exact h
theorem aft_opt {α : Type} {o : Option α} {r : Env} {P : α → Env → Prop} {E : Exn → Env → Prop} (h : (opt o r).aft P E) : ∃ a, o = some a ∧ P a r := by
  cases o with
  | none => exact h.elim
  | some a => exact ⟨a, rfl, h⟩

def KL (K : PySem.W.Frag) (a : Addr) (xs : List V) : Prop :=
  ∃ (o : Obj) (its : Array Value) (n : Nat), K.lookup a = some o ∧ o.cls = .type "list" ∧ o.dict = none ∧ o.data = .seq its n ∧ its.size ≤ sizeLine ∧ Vals xs its.toList
def KT (K : PySem.W.Frag) (a : Addr) (xs : List V) : Prop :=
  ∃ (o : Obj) (its : Array Value) (n : Nat), K.lookup a = some o ∧ o.cls = .type "tuple" ∧ o.data = .seq its n ∧ its.size ≤ sizeLine ∧ Vals xs its.toList
def LsAt (K : PySem.W.Frag) (M : Addr → Prop) (H : Hp) (a : Addr) (xs : List V) : Prop := (Rd H a (.lst xs) ∧ ¬ M a) ∨ KL K a xs
def TpAt (K : PySem.W.Frag) (M : Addr → Prop) (H : Hp) (a : Addr) (xs : List V) : Prop := (Rd H a (.tup xs) ∧ ¬ M a) ∨ KT K a xs
theorem LsAt.sq {K : PySem.W.Frag} {M : Addr → Prop} {H : Hp} {a : Addr} {xs : List V} (h : LsAt K M H a xs) : SqL K H a xs := h.elim (fun z => .inl z.1) .inr
theorem TpAt.sq {K : PySem.W.Frag} {M : Addr → Prop} {H : Hp} {a : Addr} {xs : List V} (h : TpAt K M H a xs) : SqT K H a xs := h.elim (fun z => .inl z.1) .inr
def keyD : Key → D
  | .inl i => .int i
  | .inr x => .str x
def keyT (k : List Key) : D := .tuple (k.map keyD)
mutual
/-- v stands for d; nothing of it may be changed: it stands apart from M -/
def Rp (K : PySem.W.Frag) (M : Addr → Prop) (H : Hp) : D → V → Prop
  | .none, v => v = .non
  | .bool b, v => v = .bl b
  | .int i, v => v = .int i
  | .str x, v => v = .str x
  | .list ds, v => ∃ a vs, v = .ref a ∧ LsAt K M H a vs ∧ RpL K M H ds vs
  | .tuple ds, v => ∃ a vs, v = .ref a ∧ TpAt K M H a vs ∧ RpL K M H ds vs
  | .dict kvs, v => ∃ a, v = .ref a ∧ ¬ M a ∧ ((∃ ks : List (Key × V), Rd H a (.dK ks) ∧ RpK K M H kvs ks) ∨ ∃ ks : List (List Key × V), Rd H a (.dT ks) ∧ RpT K M H kvs ks)
def RpL (K : PySem.W.Frag) (M : Addr → Prop) (H : Hp) : List D → List V → Prop
  | [], vs => vs = []
  | d :: ds, vs => ∃ v r, vs = v :: r ∧ Rp K M H d v ∧ RpL K M H ds r
def RpK (K : PySem.W.Frag) (M : Addr → Prop) (H : Hp) : List (D × D) → List (Key × V) → Prop
  | [], ks => ks = []
  | (kd, vd) :: t, ks => ∃ k v r, ks = (k, v) :: r ∧ kd = keyD k ∧ Rp K M H vd v ∧ RpK K M H t r
def RpT (K : PySem.W.Frag) (M : Addr → Prop) (H : Hp) : List (D × D) → List (List Key × V) → Prop
  | [], ks => ks = []
  | (kd, vd) :: t, ks => ∃ k v r, ks = (k, v) :: r ∧ kd = keyT k ∧ Rp K M H vd v ∧ RpT K M H t r
end
/-- as Rp, but the object itself may stand in M -/
def RpI (K : PySem.W.Frag) (M : Addr → Prop) (H : Hp) : D → V → Prop
  | .list ds, v => ∃ a vs, v = .ref a ∧ SqL K H a vs ∧ RpL K M H ds vs
  | .tuple ds, v => ∃ a vs, v = .ref a ∧ SqT K H a vs ∧ RpL K M H ds vs
  | .dict kvs, v => ∃ a, v = .ref a ∧ ((∃ ks : List (Key × V), Rd H a (.dK ks) ∧ RpK K M H kvs ks) ∨ ∃ ks : List (List Key × V), Rd H a (.dT ks) ∧ RpT K M H kvs ks)
  | d, v => Rp K M H d v
/-- the object at a, that may be changed (l: it is locked) -/
def RpO (K : PySem.W.Frag) (M : Addr → Prop) (H : Hp) (l : Bool) : D → Addr → Prop
  | .list ds, a => ∃ vs, H a = some (.lst vs) ∧ RpL K M H ds vs
  | .dict kvs, a => (∃ ks : List (Key × V), (if l = true then ∃ o, H a = some (.frz o (.dK ks)) else H a = some (.dK ks)) ∧ RpK K M H kvs ks) ∨
      ∃ ks : List (List Key × V), (if l = true then ∃ o, H a = some (.frz o (.dT ks)) else H a = some (.dT ks)) ∧ RpT K M H kvs ks
  | _, _ => False
section
variable {K : PySem.W.Frag} {M M' : Addr → Prop} {H H' : Hp}
theorem Rp.inp {d : D} {v : V} (h : Rp K M H d v) : RpI K M H d v := by
  cases d with
  | list ds =>
    simp only [Rp] at h
    obtain ⟨a, vs, e, l, r⟩ := h
    exact ⟨a, vs, e, l.sq, r⟩
  | tuple ds =>
    simp only [Rp] at h
    obtain ⟨a, vs, e, l, r⟩ := h
    exact ⟨a, vs, e, l.sq, r⟩
  | dict kvs =>
    simp only [Rp] at h
    obtain ⟨a, e, _, r⟩ := h
    exact ⟨a, e, r⟩
  | none => exact h
  | bool b => exact h
  | int i => exact h
  | str x => exact h
theorem RpO.inp {l : Bool} {d : D} {a : Addr} (h : RpO K M H l d a) : RpI K M H d (.ref a) := by
  cases d with
  | list ds =>
    obtain ⟨vs, e, r⟩ := h
    exact ⟨a, vs, rfl, .inl (.inl e), r⟩
  | dict kvs =>
    refine ⟨a, rfl, ?_⟩
    rcases h with ⟨ks, e, r⟩ | ⟨ks, e, r⟩
    · refine .inl ⟨ks, ?_, r⟩
      cases l with
      | true => exact .inr e
      | false => exact .inl e
    · refine .inr ⟨ks, ?_, r⟩
      cases l with
      | true => exact .inr e
      | false => exact .inl e
  | tuple ds => exact h.elim
  | none => exact h.elim
  | bool b => exact h.elim
  | int i => exact h.elim
  | str x => exact h.elim
theorem RpO.there {l : Bool} {d : D} {a : Addr} (h : RpO K M H l d a) : ∃ o, H a = some o := by
  cases d with
  | list ds => exact ⟨_, h.choose_spec.1⟩
  | dict kvs =>
    rcases h with ⟨ks, e, r⟩ | ⟨ks, e, r⟩ <;> (cases l with
      | true => exact ⟨_, e.choose_spec⟩
      | false => exact ⟨_, e⟩)
  | tuple ds => exact h.elim
  | none => exact h.elim
  | bool b => exact h.elim
  | int i => exact h.elim
  | str x => exact h.elim

/-- what is kept where M may change -/
def Kept (M M' : Addr → Prop) (H H' : Hp) : Prop := (∀ a o, H a = some o → (∀ ps, o ≠ .tbl ps) → ¬ M a → H' a = some o) ∧ ∀ a, M' a → M a ∨ H a = none
theorem Kept.rd (k : Kept M M' H H') {a : Addr} {u : HO} (hu : ∀ ps, u ≠ .tbl ps) (h : Rd H a u) (n : ¬ M a) : Rd H' a u ∧ ¬ M' a := by
  have nn : ∀ o, H a = some o → ¬ M' a := fun o e z => by
    rcases k.2 a z with z | z
    · exact n z
    · rw [e] at z; cases z
  rcases h with h | ⟨o, h⟩
  · exact ⟨.inl (k.1 a _ h hu n), nn _ h⟩
  · exact ⟨.inr ⟨o, k.1 a _ h (fun ps z => by cases z) n⟩, nn _ h⟩
mutual
theorem Rp.kept (k : Kept M M' H H') : ∀ (d : D) (v : V), Rp K M H d v → Rp K M' H' d v
  | .none, v, h => by simpa only [Rp] using h
  | .bool b, v, h => by simpa only [Rp] using h
  | .int i, v, h => by simpa only [Rp] using h
  | .str x, v, h => by simpa only [Rp] using h
  | .list ds, v, h => by
    simp only [Rp] at h ⊢
    obtain ⟨a, vs, e, l, r⟩ := h
    refine ⟨a, vs, e, ?_, RpL.kept k ds vs r⟩
    rcases l with ⟨l, n⟩ | l
    · exact .inl (k.rd (fun ps z => by cases z) l n)
    · exact .inr l
  | .tuple ds, v, h => by
    simp only [Rp] at h ⊢
    obtain ⟨a, vs, e, l, r⟩ := h
    refine ⟨a, vs, e, ?_, RpL.kept k ds vs r⟩
    rcases l with ⟨l, n⟩ | l
    · exact .inl (k.rd (fun ps z => by cases z) l n)
    · exact .inr l
  | .dict kvs, v, h => by
    simp only [Rp] at h ⊢
    obtain ⟨a, e, n, r⟩ := h
    rcases r with ⟨ks, l, r⟩ | ⟨ks, l, r⟩
    · obtain ⟨l', n'⟩ := k.rd (fun ps z => by cases z) l n
      exact ⟨a, e, n', .inl ⟨ks, l', RpK.kept k kvs ks r⟩⟩
    · obtain ⟨l', n'⟩ := k.rd (fun ps z => by cases z) l n
      exact ⟨a, e, n', .inr ⟨ks, l', RpT.kept k kvs ks r⟩⟩
theorem RpL.kept (k : Kept M M' H H') : ∀ (ds : List D) (vs : List V), RpL K M H ds vs → RpL K M' H' ds vs
  | [], vs, h => by simpa only [RpL] using h
  | d :: ds, vs, h => by
    simp only [RpL] at h ⊢
    obtain ⟨v, r, e, h1, h2⟩ := h
    exact ⟨v, r, e, Rp.kept k d v h1, RpL.kept k ds r h2⟩
theorem RpK.kept (k : Kept M M' H H') : ∀ (ds : List (D × D)) (vs : List (Key × V)), RpK K M H ds vs → RpK K M' H' ds vs
  | [], vs, h => by simpa only [RpK] using h
  | (kd, vd) :: ds, vs, h => by
    simp only [RpK] at h ⊢
    obtain ⟨q, v, r, e, h0, h1, h2⟩ := h
    exact ⟨q, v, r, e, h0, Rp.kept k vd v h1, RpK.kept k ds r h2⟩
theorem RpT.kept (k : Kept M M' H H') : ∀ (ds : List (D × D)) (vs : List (List Key × V)), RpT K M H ds vs → RpT K M' H' ds vs
  | [], vs, h => by simpa only [RpT] using h
  | (kd, vd) :: ds, vs, h => by
    simp only [RpT] at h ⊢
    obtain ⟨q, v, r, e, h0, h1, h2⟩ := h
    exact ⟨q, v, r, e, h0, Rp.kept k vd v h1, RpT.kept k ds r h2⟩
end
theorem RpL.length : ∀ {ds : List D} {vs : List V}, RpL K M H ds vs → ds.length = vs.length
  | [], vs, h => by simp only [RpL] at h; rw [h]; rfl
  | d :: ds, vs, h => by
    simp only [RpL] at h
    obtain ⟨v, r, e, _, h2⟩ := h
    rw [e, List.length_cons, List.length_cons, RpL.length h2]
theorem RpL.get : ∀ {ds : List D} {vs : List V} {i : Nat} {d : D}, RpL K M H ds vs → ds[i]? = some d → ∃ v, vs[i]? = some v ∧ Rp K M H d v
  | [], vs, i, d, h, e => by simp at e
  | d0 :: ds, vs, i, d, h, e => by
    simp only [RpL] at h
    obtain ⟨v, r, e1, h1, h2⟩ := h
    subst e1
    cases i with
    | zero =>
      simp at e
      subst e
      exact ⟨v, rfl, h1⟩
    | succ i =>
      have e' : ds[i]? = some d := by simpa using e
      obtain ⟨w, a, b⟩ := RpL.get h2 e'
      exact ⟨w, by simpa using a, b⟩
theorem RpL.append : ∀ {ds es : List D} {vs ws : List V}, RpL K M H ds vs → RpL K M H es ws → RpL K M H (ds ++ es) (vs ++ ws)
  | [], es, vs, ws, h, h' => by simp only [RpL] at h; rw [h]; exact h'
  | d :: ds, es, vs, ws, h, h' => by
    simp only [RpL] at h
    obtain ⟨v, r, e, h1, h2⟩ := h
    subst e
    show RpL K M H (d :: (ds ++ es)) (v :: (r ++ ws))
    simp only [RpL]
    exact ⟨v, _, rfl, h1, RpL.append h2 h'⟩
theorem RpL.drop : ∀ {ds : List D} {vs : List V} (n : Nat), RpL K M H ds vs → RpL K M H (ds.drop n) (vs.drop n)
  | ds, vs, 0, h => h
  | [], vs, n + 1, h => by simp only [RpL] at h; rw [h]; simp [RpL]
  | d :: ds, vs, n + 1, h => by
    simp only [RpL] at h
    obtain ⟨v, r, e, h1, h2⟩ := h
    subst e
    exact RpL.drop n h2
theorem RpL.take : ∀ {ds : List D} {vs : List V} (n : Nat), RpL K M H ds vs → RpL K M H (ds.take n) (vs.take n)
  | ds, vs, 0, h => by simp [RpL]
  | [], vs, n + 1, h => by simp only [RpL] at h; rw [h]; simp [RpL]
  | d :: ds, vs, n + 1, h => by
    simp only [RpL] at h
    obtain ⟨v, r, e, h1, h2⟩ := h
    subst e
    show RpL K M H (d :: ds.take n) (v :: r.take n)
    simp only [RpL]
    exact ⟨v, _, rfl, h1, RpL.take n h2⟩
theorem RpL.cons {d : D} {ds : List D} {v : V} {vs : List V} (h : Rp K M H d v) (h' : RpL K M H ds vs) : RpL K M H (d :: ds) (v :: vs) := by
  simp only [RpL]
  exact ⟨v, vs, rfl, h, h'⟩
theorem RpL.nil : RpL K M H [] [] := by simp only [RpL]
theorem RpL.set {d : D} {v : V} (h0 : Rp K M H d v) : ∀ {ds : List D} {vs : List V} (i : Nat), RpL K M H ds vs → RpL K M H (ds.set i d) (vs.set i v)
  | [], vs, i, h => by simp only [RpL] at h; rw [h]; simp [RpL]
  | c :: ds, vs, 0, h => by
    simp only [RpL] at h
    obtain ⟨w, r, e, h1, h2⟩ := h
    subst e
    exact RpL.cons h0 h2
  | c :: ds, vs, i + 1, h => by
    simp only [RpL] at h
    obtain ⟨w, r, e, h1, h2⟩ := h
    subst e
    exact RpL.cons h1 (RpL.set h0 i h2)
theorem RpL.ints : ∀ {ns : List Int} {vs : List V}, RpL K M H (ns.map PyData.int) vs → vs = ns.map V.int
  | [], vs, h => by simpa only [List.map_nil, RpL] using h
  | n :: ns, vs, h => by
    simp only [List.map_cons, RpL] at h
    obtain ⟨v, r, e, h1, h2⟩ := h
    simp only [Rp] at h1
    rw [e, h1, RpL.ints h2]
    rfl
theorem RpL.of_ints : ∀ {ns : List Int}, RpL K M H (ns.map PyData.int) (ns.map V.int)
  | [] => RpL.nil
  | n :: ns => RpL.cons (by simp only [Rp]) RpL.of_ints
theorem RpL.bools : ∀ {bs : List Bool} {vs : List V}, RpL K M H (bs.map PyData.bool) vs → vs = bs.map V.bl
  | [], vs, h => by simpa only [List.map_nil, RpL] using h
  | n :: ns, vs, h => by
    simp only [List.map_cons, RpL] at h
    obtain ⟨v, r, e, h1, h2⟩ := h
    simp only [Rp] at h1
    rw [e, h1, RpL.bools h2]
    rfl
mutual
theorem Rp.dp : ∀ (d : D) (v : V), Rp K M H d v → PyData.hasDict d = false → Dp K H v d
  | .none, v, h, _ => by simp only [Rp] at h; rw [h]; exact .non
  | .bool b, v, h, _ => by simp only [Rp] at h; rw [h]; exact .bl b
  | .int i, v, h, _ => by simp only [Rp] at h; rw [h]; exact .int i
  | .str x, v, h, _ => by simp only [Rp] at h; rw [h]; exact .str x
  | .list ds, v, h, n => by
    simp only [Rp] at h
    obtain ⟨a, vs, e, l, r⟩ := h
    rw [e]
    exact .lst l.sq (RpL.dp ds vs r (by simpa only [PyData.hasDict] using n))
  | .tuple ds, v, h, n => by
    simp only [Rp] at h
    obtain ⟨a, vs, e, l, r⟩ := h
    rw [e]
    exact .tup l.sq (RpL.dp ds vs r (by simpa only [PyData.hasDict] using n))
  | .dict kvs, v, h, n => by simp only [PyData.hasDict] at n; cases n
theorem RpL.dp : ∀ (ds : List D) (vs : List V), RpL K M H ds vs → PyData.hasDictAll ds = false → DpAll K H vs ds
  | [], vs, h, _ => by simp only [RpL] at h; rw [h]; exact .nil
  | d :: ds, vs, h, n => by
    simp only [RpL] at h
    obtain ⟨v, r, e, h1, h2⟩ := h
    rw [e]
    simp only [PyData.hasDictAll, Bool.or_eq_false_iff] at n
    exact .cons (Rp.dp d v h1 n.1) (RpL.dp ds r h2 n.2)
end
theorem RpI.dp {d : D} {v : V} (h : RpI K M H d v) (n : PyData.hasDict d = false) : Dp K H v d := by
  cases d with
  | list ds =>
    obtain ⟨a, vs, e, l, r⟩ := h
    rw [e]
    exact .lst l (RpL.dp ds vs r (by simpa only [PyData.hasDict] using n))
  | tuple ds =>
    obtain ⟨a, vs, e, l, r⟩ := h
    rw [e]
    exact .tup l (RpL.dp ds vs r (by simpa only [PyData.hasDict] using n))
  | dict kvs => simp only [PyData.hasDict] at n; cases n
  | none => exact Rp.dp (M := M) .none _ h n
  | bool b => exact Rp.dp (M := M) (.bool b) _ h n
  | int i => exact Rp.dp (M := M) (.int i) _ h n
  | str x => exact Rp.dp (M := M) (.str x) _ h n
theorem RpO.kept (k : Kept M M' H H') {l : Bool} {d : D} {a : Addr} (h : RpO K M H l d a) (e : ∀ o, H a = some o → H' a = some o) : RpO K M' H' l d a := by
  cases d with
  | list ds =>
    obtain ⟨vs, e1, r⟩ := h
    exact ⟨vs, e _ e1, RpL.kept k _ _ r⟩
  | dict kvs =>
    rcases h with ⟨ks, e1, r⟩ | ⟨ks, e1, r⟩
    · refine .inl ⟨ks, ?_, RpK.kept k _ _ r⟩
      cases l with
      | true => obtain ⟨o, e1⟩ := e1; exact ⟨o, e _ e1⟩
      | false => exact e _ e1
    · refine .inr ⟨ks, ?_, RpT.kept k _ _ r⟩
      cases l with
      | true => obtain ⟨o, e1⟩ := e1; exact ⟨o, e _ e1⟩
      | false => exact e _ e1
  | tuple ds => exact h.elim
  | none => exact h.elim
  | bool b => exact h.elim
  | int i => exact h.elim
  | str x => exact h.elim
theorem RpO.noTbl {l : Bool} {d : D} {a : Addr} (h : RpO K M H l d a) : ∀ ps, H a ≠ some (.tbl ps) := fun ps z => by
  cases d with
  | list ds =>
    obtain ⟨vs, e1, r⟩ := h
    rw [z] at e1; cases e1
  | dict kvs =>
    rcases h with ⟨ks, e1, r⟩ | ⟨ks, e1, r⟩ <;> (cases l with
      | true => obtain ⟨o, e1⟩ := e1; rw [z] at e1; cases e1
      | false => simp only [Bool.false_eq_true, if_false] at e1; rw [z] at e1; cases e1)
  | tuple ds => exact h.elim
  | none => exact h.elim
  | bool b => exact h.elim
  | int i => exact h.elim
  | str x => exact h.elim
theorem RpO.noTup {l : Bool} {d : D} {a : Addr} (h : RpO K M H l d a) : ∀ xs, ¬ Rd H a (.tup xs) := fun xs z => by
  cases d with
  | list ds =>
    obtain ⟨vs, e1, r⟩ := h
    rcases z with z | ⟨o, z⟩ <;> (rw [z] at e1; cases e1)
  | dict kvs =>
    rcases h with ⟨ks, e1, r⟩ | ⟨ks, e1, r⟩ <;> (cases l with
      | true => obtain ⟨o, e1⟩ := e1; rcases z with z | ⟨o, z⟩ <;> (rw [z] at e1; cases e1)
      | false => simp only [Bool.false_eq_true, if_false] at e1; rcases z with z | ⟨o, z⟩ <;> (rw [z] at e1; cases e1))
  | tuple ds => exact h.elim
  | none => exact h.elim
  | bool b => exact h.elim
  | int i => exact h.elim
  | str x => exact h.elim
end
/-- neither a code object's table nor a tuple -/
def NoTb (H : Hp) (a : Addr) : Prop := (∀ ps, H a ≠ some (.tbl ps)) ∧ ∀ xs, ¬ Rd H a (.tup xs)
theorem RpO.noTb {K : PySem.W.Frag} {M : Addr → Prop} {H : Hp} {l : Bool} {d : D} {a : Addr} (h : RpO K M H l d a) : NoTb H a := ⟨h.noTbl, h.noTup⟩
theorem NoTb.eq {H H1 : Hp} {a : Addr} (h : NoTb H a) (e : H1 a = H a) : NoTb H1 a := ⟨fun ps => by rw [e]; exact h.1 ps, fun xs z => h.2 xs (by unfold Rd at z ⊢; rw [← e]; exact z)⟩

/-- the slots' own objects -/
def Mu (r : Env) (σ : L2.St) (a : Addr) : Prop := ∃ (i : Nat) (p l : Bool) (d : D), r[i]? = some (.ow p l d) ∧ σ[i]? = some (some (.ref a))
abbrev MuZ (Z : Addr → Prop) (r : Env) (σ : L2.St) (a : Addr) : Prop := Mu r σ a ∨ Z a
structure SimZ (K : PySem.W.Frag) (T : List (Addr × Str)) (Z : Addr → Prop) (r : Env) (σ : L2.St) (H : Hp) : Prop where
  len : r.length = σ.length
  va : ∀ (i : Nat) (p : Bool) (d : D), r[i]? = some (.va p d) → ∃ v, σ[i]? = some (some v) ∧ Rp K (MuZ Z r σ) H d v
  ow : ∀ (i : Nat) (p l : Bool) (d : D), r[i]? = some (.ow p l d) → ∃ a, σ[i]? = some (some (.ref a)) ∧ RpO K (MuZ Z r σ) H l d a
  inj : ∀ (i j : Nat) (p q l m : Bool) (d e : D) (a : Addr), r[i]? = some (.ow p l d) → r[j]? = some (.ow q m e) → σ[i]? = some (some (.ref a)) → σ[j]? = some (some (.ref a)) → i = j
  apart : ∀ a, Z a → ¬ Mu r σ a
  zin : ∀ a, Z a → H a ≠ none ∧ NoTb H a
  tabs : LamX.Tabs T H
/-- how a slot may change within an expression -/
def SlE : Sl → Sl → Prop
  | .un, s => s = .un
  | .va p d, s => s = .va p d
  | .ow p l d, s => (∃ d', s = .ow p l d' ∧ (l = true → d' = d)) ∨ (l = false ∧ ∃ d', s = .va p d')
theorem SlE.refl (s : Sl) : SlE s s := by
  cases s with
  | un => exact rfl
  | va p d => exact rfl
  | ow p l d => exact .inl ⟨d, rfl, fun _ => rfl⟩
theorem SlE.trans {a b c : Sl} (h : SlE a b) (k : SlE b c) : SlE a c := by
  cases a with
  | un => cases h; exact k
  | va p d => cases h; exact k
  | ow p l d =>
    rcases h with ⟨d', e, f⟩ | ⟨e0, d', e⟩
    · subst e
      rcases k with ⟨d2, e2, f2⟩ | ⟨e0, d2, e2⟩
      · exact .inl ⟨d2, e2, fun z => (f2 z).trans (f z)⟩
      · exact .inr ⟨e0, d2, e2⟩
    · subst e
      have k' : c = .va p d' := k
      exact .inr ⟨e0, d', k'⟩
/-- .. within a statement: what is a parameter's, pinned or locked stays where it is -/
def SlS : Sl → Sl → Prop
  | .va true d, s => s = .va true d
  | .ow true l d, s => (∃ d', s = .ow true l d' ∧ (l = true → d' = d)) ∨ (l = false ∧ ∃ d', s = .va true d')
  | .ow false true d, s => s = .ow false true d
  | _, _ => True
def stays : Sl → Bool
  | .va true _ => true
  | .ow true _ _ => true
  | .ow _ true _ => true
  | _ => false
/-- behind an expression -/
structure EvE (K : PySem.W.Frag) (T : List (Addr × Str)) (Z : Addr → Prop) (r : Env) (σ : L2.St) (H : Hp) (r' : Env) (H' : Hp) : Prop where
  sim : SimZ K T Z r' σ H'
  ob : ∀ a o, H a = some o → (∀ ps, o ≠ .tbl ps) → ¬ Mu r σ a → H' a = some o
  dom : ∀ a, H' a = none → H a = none
  slot : ∀ (i : Nat) (s : Sl), r[i]? = some s → ∃ s', r'[i]? = some s' ∧ SlE s s'
section
variable {K : PySem.W.Frag} {T : List (Addr × Str)} {Z : Addr → Prop} {r r1 r2 : Env} {σ : L2.St} {H H1 H2 : Hp}
theorem EvE.refl (S : SimZ K T Z r σ H) : EvE K T Z r σ H r H := ⟨S, fun _ _ h _ _ => h, fun _ h => h, fun _ s h => ⟨s, h, SlE.refl s⟩⟩
theorem EvE.len (E : EvE K T Z r σ H r1 H1) (S : SimZ K T Z r σ H) : r1.length = r.length := by rw [E.sim.len, S.len]
theorem EvE.mu (E : EvE K T Z r σ H r1 H1) (S : SimZ K T Z r σ H) : ∀ a, Mu r1 σ a → Mu r σ a := by
  rintro a ⟨i, p, l, d, h, hs⟩
  have hi : i < r1.length := (List.getElem?_eq_some_iff.mp h).1
  rw [E.len S] at hi
  obtain ⟨s', e1, e2⟩ := E.slot i r[i] (List.getElem?_eq_getElem hi)
  rw [h] at e1
  cases e1
  cases hq : r[i] with
  | un => rw [hq] at e2; cases e2
  | va q e => rw [hq] at e2; cases e2
  | ow q m e => exact ⟨i, q, m, e, by rw [List.getElem?_eq_getElem hi, hq], hs⟩
theorem EvE.kept (E : EvE K T Z r σ H r1 H1) (S : SimZ K T Z r σ H) : Kept (MuZ Z r σ) (MuZ Z r1 σ) H H1 :=
  ⟨fun a o h t n => E.ob a o h t fun z => n (.inl z), fun a z => z.elim (fun z => .inl (.inl (E.mu S a z))) fun z => .inl (.inr z)⟩
theorem EvE.trans (S : SimZ K T Z r σ H) (E : EvE K T Z r σ H r1 H1) (F : EvE K T Z r1 σ H1 r2 H2) : EvE K T Z r σ H r2 H2 where
  sim := F.sim
  ob := fun a o h t n => F.ob a o (E.ob a o h t n) t fun z => n (E.mu S a z)
  dom := fun a h => E.dom a (F.dom a h)
  slot := fun i s h => by
    obtain ⟨s1, h1, e1⟩ := E.slot i s h
    obtain ⟨s2, h2, e2⟩ := F.slot i s1 h1
    exact ⟨s2, h2, e1.trans e2⟩
/-- the heap grows -/
def Ext (H H' : Hp) : Prop := ∀ a o, H a = some o → H' a = some o
theorem Ext.refl (H : Hp) : Ext H H := fun _ _ h => h
theorem Ext.trans (a : Ext H H1) (b : Ext H1 H2) : Ext H H2 := fun x o h => b x o (a x o h)
theorem Ext.new {p : Addr} {o : HO} (h : H p = none) : Ext H (upd H p o) := fun a u e => by
  rw [upd_ne (ne_of_none e h)]
  exact e
theorem Ext.dom (e : Ext H H1) {a : Addr} (h : H1 a = none) : H a = none := by
  cases q : H a with
  | none => rfl
  | some o => rw [e a o q] at h; cases h
theorem SimZ.ext (S : SimZ K T Z r σ H) (e : Ext H H1) : SimZ K T Z r σ H1 := by
  have k : Kept (MuZ Z r σ) (MuZ Z r σ) H H1 := ⟨fun a o h _ _ => e a o h, fun a z => .inl z⟩
  refine ⟨S.len, fun i p d h => ?_, fun i p l d h => ?_, S.inj, S.apart, fun a z => ?_, S.tabs.ext e⟩
  · obtain ⟨v, h1, h2⟩ := S.va i p d h
    exact ⟨v, h1, Rp.kept k d v h2⟩
  · obtain ⟨a, h1, h2⟩ := S.ow i p l d h
    exact ⟨a, h1, h2.kept k fun o => e a o⟩
  · obtain ⟨z1, z2⟩ := S.zin a z
    cases q : H a with
    | none => exact absurd q z1
    | some o =>
      exact ⟨fun z => (by rw [e a o q] at z; cases z), z2.eq (by rw [e a o q, q])⟩
theorem EvE.ext (S : SimZ K T Z r σ H) (e : Ext H H1) : EvE K T Z r σ H r H1 := ⟨S.ext e, fun a o h _ _ => e a o h, fun _ h => e.dom h, fun _ s h => ⟨s, h, SlE.refl s⟩⟩
theorem SimZ.mem (S : SimZ K T Z r σ H) {a : Addr} (h : Mu r σ a) : ∃ o, H a = some o := by
  obtain ⟨i, p, l, d, h1, h2⟩ := h
  obtain ⟨b, h3, h4⟩ := S.ow i p l d h1
  rw [h2] at h3
  cases h3
  exact h4.there
theorem SimZ.notbl (S : SimZ K T Z r σ H) {a : Addr} (h : Mu r σ a) : NoTb H a := by
  obtain ⟨i, p, l, d, h1, h2⟩ := h
  obtain ⟨b, h3, h4⟩ := S.ow i p l d h1
  rw [h2] at h3
  cases h3
  exact h4.noTb
/-- what is known of the objects that may change -/
def MIn (M : Addr → Prop) (H : Hp) : Prop := ∀ a, M a → H a ≠ none ∧ NoTb H a
theorem SimZ.min (S : SimZ K T Z r σ H) : MIn (MuZ Z r σ) H := fun a z => by
  rcases z with z | z
  · obtain ⟨o, ho⟩ := S.mem z
    exact ⟨fun q => (by rw [ho] at q; cases q), S.notbl z⟩
  · exact S.zin a z
/-- a new address is apart -/
theorem SimZ.fresh (S : SimZ K T Z r σ H) {p : Addr} (h : H p = none) (e : Ext H H1) (h1 : H1 p ≠ none ∧ NoTb H1 p) : SimZ K T (fun b => Z b ∨ b = p) r σ H1 := by
  have S1 := S.ext e
  have k : Kept (MuZ Z r σ) (MuZ (fun b => Z b ∨ b = p) r σ) H H1 := ⟨fun a o h _ _ => e a o h, fun a z => z.elim (fun z => .inl (.inl z)) fun z => z.elim (fun z => .inl (.inr z)) fun z => .inr (by rw [z]; exact h)⟩
  refine ⟨S.len, fun i q d h => ?_, fun i q l d h => ?_, S.inj, fun a z m => ?_, fun a z => ?_, S1.tabs⟩
  · obtain ⟨v, h1, h2⟩ := S.va i q d h
    exact ⟨v, h1, Rp.kept k d v h2⟩
  · obtain ⟨a, h1, h2⟩ := S.ow i q l d h
    exact ⟨a, h1, h2.kept k fun o z => e a o z⟩
  · rcases z with z | z
    · exact S.apart a z m
    · obtain ⟨o, ho⟩ := S.mem m
      rw [z, h] at ho
      cases ho
  · rcases z with z | z
    · exact S1.zin a z
    · rw [z]
      exact h1
end

/-- what v is -/
def Holds (K : PySem.W.Frag) (Z : Addr → Prop) (r : Env) (σ : L2.St) (H : Hp) : R → V → Prop
  | .va d, v => Rp K (MuZ Z r σ) H d v
  | .nw d, v => ∃ a, v = .ref a ∧ (¬ Mu r σ a ∧ ¬ Z a) ∧ RpO K (MuZ Z r σ) H false d a
  | .sl i, v => σ[i]? = some (some v) ∧ ∃ d, (∃ p, r[i]? = some (.va p d)) ∨ ∃ p l, r[i]? = some (.ow p l d)
/-- .. just behind the expression from the heap H -/
def ResR (K : PySem.W.Frag) (T : List (Addr × Str)) (Z : Addr → Prop) (σ : L2.St) (H : Hp) (r' : Env) (H' : Hp) : R → V → Prop
  | .va d, v => Rp K (MuZ Z r' σ) H' d v
  | .nw d, v => ∃ a, v = .ref a ∧ H a = none ∧ SimZ K T (fun b => Z b ∨ b = a) r' σ H' ∧ RpO K (MuZ (fun b => Z b ∨ b = a) r' σ) H' false d a
  | .sl i, v => σ[i]? = some (some v) ∧ ∃ d, (∃ p, r'[i]? = some (.va p d)) ∨ ∃ p l, r'[i]? = some (.ow p l d)
section
variable {K : PySem.W.Frag} {T : List (Addr × Str)} {Z : Addr → Prop} {r r1 r2 : Env} {σ : L2.St} {H H1 H2 : Hp} {x : R} {v : V} {d : D}
theorem Kept.less {M M' : Addr → Prop} (h : ∀ a, M' a → M a) : Kept M M' H H := ⟨fun _ _ e _ _ => e, fun a z => .inl (h a z)⟩
theorem ResR.holds (S : SimZ K T Z r σ H) (E : EvE K T Z r σ H r1 H1) (h : ResR K T Z σ H r1 H1 x v) : Holds K Z r1 σ H1 x v := by
  cases x with
  | va d => exact h
  | nw d =>
    obtain ⟨a, e, n, S', o⟩ := h
    refine ⟨a, e, ⟨fun m => ?_, fun z => (S.zin a z).1 n⟩, o.kept (Kept.less fun b z => z.elim .inl fun z => .inr (.inl z)) fun _ z => z⟩
    obtain ⟨u, hu⟩ := S.mem (E.mu S a m)
    rw [n] at hu
    cases hu
  | sl i => exact h
theorem Holds.kept (S : SimZ K T Z r σ H) (E : EvE K T Z r σ H r1 H1) (h : Holds K Z r σ H x v) : Holds K Z r1 σ H1 x v := by
  cases x with
  | va d => exact Rp.kept (E.kept S) d v h
  | nw d =>
    obtain ⟨a, e, n, o⟩ := h
    refine ⟨a, e, ⟨fun m => n.1 (E.mu S a m), n.2⟩, o.kept (E.kept S) fun u hu => E.ob a u hu (fun ps z => ?_) n.1⟩
    rw [z] at hu
    exact o.noTbl ps hu
  | sl i =>
    obtain ⟨h1, d, h2⟩ := h
    refine ⟨h1, ?_⟩
    rcases h2 with ⟨p, h2⟩ | ⟨p, l, h2⟩
    · obtain ⟨s', e1, e2⟩ := E.slot i _ h2
      cases e2
      exact ⟨d, .inl ⟨p, e1⟩⟩
    · obtain ⟨s', e1, e2⟩ := E.slot i _ h2
      rcases e2 with ⟨d', e, _⟩ | ⟨_, d', e⟩
      · subst e
        exact ⟨d', .inr ⟨p, l, e1⟩⟩
      · subst e
        exact ⟨d', .inl ⟨p, e1⟩⟩
theorem Holds.der (S : SimZ K T Z r σ H) (h : Holds K Z r σ H x v) (e : der r x = some d) : RpI K (MuZ Z r σ) H d v := by
  cases x with
  | va d' =>
    cases e
    exact Rp.inp h
  | nw d' =>
    cases e
    obtain ⟨a, ev, n, o⟩ := h
    rw [ev]
    exact o.inp
  | sl i =>
    obtain ⟨h1, d', h2⟩ := h
    rcases h2 with ⟨p, h2⟩ | ⟨p, l, h2⟩
    · have e' : d' = d := by
        simp only [SE.der, h2] at e
        exact Option.some.inj e
      subst e'
      obtain ⟨w, a, b⟩ := S.va i p d' h2
      rw [h1] at a
      cases a
      exact Rp.inp b
    · have e' : d' = d := by
        simp only [SE.der, h2] at e
        exact Option.some.inj e
      subst e'
      obtain ⟨w, a, b⟩ := S.ow i p l d' h2
      rw [h1] at a
      cases a
      exact b.inp
end
end SE
set_option Elab.async false
set_option linter.all false
set_option maxRecDepth 100000
set_option maxHeartbeats 1000000
namespace SE
open PySem L2
/-- an exception of the mirror's, as it lies -/
def ExR (mg : Str → Option Value) (e : Exn) (c : Value) (dd : Option Addr) (H : Hp) : Prop := mg e.cls = some c ∧ e.args = [] ∧ dd = none
/-- what stays through a def's body -/
structure G where
  K : PySem.W.Frag
  T : List (Addr × Str)
  mg : Str → Option Value
  W : WX
  Z : Addr → Prop
def exW (g : G) (r : Env) (σ : L2.St) (H : Hp) (e : Exn) (r' : Env) : Prop := ∀ c dd H', EvE g.K g.T g.Z r σ H r' H' → ExR g.mg e c dd H' → g.W c dd σ H'
def tE (g : G) (d : DE) : TE := fun σ H Q => ∃ r, SimZ g.K g.T g.Z r σ H ∧ (d r).aft (fun x r' => ∀ v H', EvE g.K g.T g.Z r σ H r' H' → ResR g.K g.T g.Z σ H r' H' x v → Q v H') (exW g r σ H)
def tT (g : G) (d : DT) : TT := fun σ H Q => ∃ r, SimZ g.K g.T g.Z r σ H ∧ (d r).aft (fun b r' => ∀ H', EvE g.K g.T g.Z r σ H r' H' → Q b H') (exW g r σ H)
def tA (g : G) (d : DA) : TA := fun σ H Q => ∃ r, SimZ g.K g.T g.Z r σ H ∧ (d r).aft (fun ds r' => ∀ vs H', EvE g.K g.T g.Z r σ H r' H' → RpL g.K (MuZ g.Z r' σ) H' ds vs → Q vs H') (exW g r σ H)
def HoldsL (K : PySem.W.Frag) (Z : Addr → Prop) (r : Env) (σ : L2.St) (H : Hp) : List R → List V → Prop
  | [], vs => vs = []
  | x :: xs, vs => ∃ v ws, vs = v :: ws ∧ Holds K Z r σ H x v ∧ HoldsL K Z r σ H xs ws
def tR (g : G) (d : DR) : TA := fun σ H Q => ∃ r, SimZ g.K g.T g.Z r σ H ∧ (d r).aft (fun xs r' => ∀ vs H', EvE g.K g.T g.Z r σ H r' H' → HoldsL g.K g.Z r' σ H' xs vs → Q vs H') (exW g r σ H)
def tO (g : G) (d : DO) : TO := fun σ H Q => ∃ r, SimZ g.K g.T g.Z r σ H ∧ (d r).aft (fun o r' => ∀ H', EvE g.K g.T g.Z r σ H r' H' → Q o H') (exW g r σ H)
theorem PE.imp {X : Cx} {e : Expr} {t t' : TE} (h : PE X e t) (k : ∀ σ H Q, t' σ H Q → t σ H Q) : PE X e t' := ⟨fun p s σ H Q I q => h.run p s σ H Q I (k σ H Q q)⟩
theorem PT.imp {X : Cx} {e : Expr} {t t' : TT} (h : PT X e t) (k : ∀ σ H Q, t' σ H Q → t σ H Q) : PT X e t' := ⟨fun p s σ H Q I q => h.run p s σ H Q I (k σ H Q q)⟩
theorem PW.imp {X : Cx} {e : Expr} {t t' : TT} (h : PW X e t) (k : ∀ σ H Q, t' σ H Q → t σ H Q) : PW X e t' := ⟨fun w p s σ H Q I q => h.run w p s σ H Q I (k σ H Q q)⟩
theorem PA.imp {X : Cx} {e : List Expr} {t t' : TA} (h : PA X e t) (k : ∀ σ H Q, t' σ H Q → t σ H Q) : PA X e t' := ⟨fun w p s σ H Q I q => h.run w p s σ H Q I (k σ H Q q)⟩
theorem PO.imp {X : Cx} {e : Option Expr} {t t' : TO} (h : PO X e t) (k : ∀ σ H Q, t' σ H Q → t σ H Q) : PO X e t' := ⟨fun p s σ H Q I q => h.run p s σ H Q I (k σ H Q q)⟩
theorem PS.imp {X : Cx} {e : Stmt} {t t' : TS} (h : PS X e t) (k : ∀ D σ H, t' D σ H → t D σ H) : PS X e t' := ⟨fun p s σ H D I q => h.run p s σ H D I (k D σ H q)⟩
theorem PSs.imp {X : Cx} {e : List Stmt} {t t' : TS} (h : PSs X e t) (k : ∀ D σ H, t' D σ H → t D σ H) : PSs X e t' := ⟨fun p s σ H D I q => h.run p s σ H D I (k D σ H q)⟩

section
variable {K : PySem.W.Frag} {T : List (Addr × Str)} {Z : Addr → Prop} {g : G} {r r1 r2 : Env} {σ : L2.St} {H H1 H2 : Hp}
theorem exW.then (S : SimZ g.K g.T g.Z r σ H) (E : EvE g.K g.T g.Z r σ H r1 H1) {e : Exn} {r' : Env} (h : exW g r σ H e r') : exW g r1 σ H1 e r' := fun c dd H' E' x => h c dd H' (E.trans S E') x
theorem HoldsL.kept (S : SimZ K T Z r σ H) (E : EvE K T Z r σ H r1 H1) : ∀ {xs : List R} {vs : List V}, HoldsL K Z r σ H xs vs → HoldsL K Z r1 σ H1 xs vs
  | [], vs, h => h
  | x :: xs, vs, ⟨v, ws, e, a, b⟩ => ⟨v, ws, e, a.kept S E, HoldsL.kept S E b⟩
def RpIs (K : PySem.W.Frag) (M : Addr → Prop) (H : Hp) : List D → List V → Prop
  | [], vs => vs = []
  | d :: ds, vs => ∃ v ws, vs = v :: ws ∧ RpI K M H d v ∧ RpIs K M H ds ws
theorem HoldsL.ders (S : SimZ K T Z r σ H) : ∀ {xs : List R} {vs : List V} {ds : List D}, HoldsL K Z r σ H xs vs → ders r xs = some ds → RpIs K (MuZ Z r σ) H ds vs
  | [], vs, ds, h, e => by
    cases e
    exact h
  | x :: xs, vs, ds, ⟨v, ws, e, a, b⟩, h => by
    unfold SE.ders at h
    cases hd : der r x with
    | none => rw [hd] at h; cases h
    | some d =>
      rw [hd] at h
      cases hds : SE.ders r xs with
      | none => rw [hds] at h; cases h
      | some es =>
        rw [hds] at h
        cases h
        exact ⟨v, ws, e, a.der S hd, HoldsL.ders S b hds⟩
/-- what a rule of values makes -/
def NewR (K : PySem.W.Frag) (M : Addr → Prop) (H H' : Hp) : R → V → Prop
  | .va d, z => Rp K M H' d z
  | .nw d, z => ∃ a, z = .ref a ∧ H a = none ∧ RpO K (fun b => M b ∨ b = a) H' false d a
  | .sl _, _ => False
theorem NewR.res (S : SimZ K T Z r σ H) (E : EvE K T Z r σ H r1 H1) (e : Ext H1 H2) {q : R} {z : V} (h : NewR K (MuZ Z r1 σ) H1 H2 q z) : EvE K T Z r σ H r1 H2 ∧ ResR K T Z σ H r1 H2 q z := by
  refine ⟨E.trans S (EvE.ext E.sim e), ?_⟩
  cases q with
  | va d => exact h
  | nw d =>
    obtain ⟨a, ez, n, o⟩ := h
    refine ⟨a, ez, E.dom a n, SimZ.fresh E.sim n e ⟨fun z => ?_, o.noTb⟩, o.kept (Kept.less fun b z => z.elim (fun z => .inl (.inl z)) fun z => z.elim (fun z => .inl (.inr z)) .inr) fun _ z => z⟩
    obtain ⟨u, hu⟩ := o.there
    rw [z] at hu
    cases hu
  | sl i => exact h.elim
def rD (K : PySem.W.Frag) (f : D → D → Option R) : R2 := fun x y H Q => ∃ M u v q, MIn M H ∧ RpI K M H u x ∧ RpI K M H v y ∧ f u v = some q ∧ ∀ z H', Ext H H' → NewR K M H H' q z → Q z H'
def rD1 (K : PySem.W.Frag) (f : D → Option R) : V → Hp → VK → Prop := fun x H Q => ∃ M u q, MIn M H ∧ RpI K M H u x ∧ f u = some q ∧ ∀ z H', Ext H H' → NewR K M H H' q z → Q z H'
def rDs (K : PySem.W.Frag) (f : List D → Option R) : List V → Hp → VK → Prop := fun xs H Q => ∃ M ds q, MIn M H ∧ RpIs K M H ds xs ∧ f ds = some q ∧ ∀ z H', Ext H H' → NewR K M H H' q z → Q z H'
def rDSl (K : PySem.W.Frag) (f : D → Option Int → Option Int → Option R) : V → Option Int → Option Int → Hp → VK → Prop := fun x lo hi H Q => ∃ M u q, MIn M H ∧ RpI K M H u x ∧ f u lo hi = some q ∧ ∀ z H', Ext H H' → NewR K M H H' q z → Q z H'
end

section
variable {X : Cx} {T : List (Addr × Str)} {W : WX} {Z : Addr → Prop}
abbrev gX (X : Cx) (T : List (Addr × Str)) (W : WX) (Z : Addr → Prop) : G := ⟨X.K, T, X.mg, W, Z⟩
variable {a b c e : Expr} {da db dc : DE} {pos : Pos}
theorem se_var {i : Nat} {x : Str} (h : PE X (.Name x pos) (tVar i)) : PE X (.Name x pos) (tE (gX X T W Z) (dVar i)) := by
  refine PE.imp h fun σ H Q hq => ?_
  obtain ⟨r, S, q⟩ := hq
  unfold dVar at q
  cases hr : r[i]? with
  | none => rw [hr] at q; exact q.elim
  | some s =>
    rw [hr] at q
    cases s with
    | un => exact q.elim
    | va p d =>
      obtain ⟨v, h1, h2⟩ := S.va i p d hr
      exact ⟨v, h1, q v H (EvE.refl S) h2⟩
    | ow p l d =>
      obtain ⟨v, h1, h2⟩ := S.ow i p l d hr
      exact ⟨_, h1, q _ H (EvE.refl S) ⟨h1, d, .inr ⟨p, l, hr⟩⟩⟩
theorem se_const {v : V} {d : D} (h : PE X e (tC v)) (k : ∀ M H, Rp X.K M H d v) : PE X e (tE (gX X T W Z) (dC d)) := by
  refine PE.imp h fun σ H Q hq => ?_
  obtain ⟨r, S, q⟩ := hq
  exact q v H (EvE.refl S) (k _ _)
/-- two operands -/
theorem se_two {t : TE → TE → TE} {f : D → D → Option R} {r2 : R2} (ht : t = fun ta tb σ H Q => ta σ H fun x H1 => tb σ H1 fun y H2 => r2 x y H2 Q)
    (hr : ∀ x y H Q, rD X.K f x y H Q → r2 x y H Q) (σ : L2.St) (H : Hp) (Q : VK) (h : tE (gX X T W Z) (dOp f da db) σ H Q) : t (tE (gX X T W Z) da) (tE (gX X T W Z) db) σ H Q := by
  subst ht
  obtain ⟨r, S, q⟩ := h
  refine ⟨r, S, aft_mono (aft_bind q) (fun x r1 q1 v H1 E1 R1 => ?_) fun _ _ z => z⟩
  refine ⟨r1, E1.sim, aft_mono (aft_bind q1) (fun y r2 q2 w H2 E2 R2 => ?_) fun _ _ z => exW.then S E1 z⟩
  have E12 := E1.trans S E2
  obtain ⟨z, hz, q3⟩ := aft_opt q2
  cases hu : der r2 x with
  | none => rw [hu] at hz; cases hz
  | some u =>
    cases hv : der r2 y with
    | none => rw [hu, hv] at hz; cases hz
    | some v' =>
      rw [hu, hv] at hz
      refine hr _ _ _ _ ⟨MuZ Z r2 σ, u, v', z, E2.sim.min, ((R1.holds S E1).kept E1.sim E2).der E2.sim hu, (R2.holds E1.sim E2).der E2.sim hv, hz, fun zv H' ex nw => ?_⟩
      obtain ⟨a1, a2⟩ := NewR.res S E12 ex nw
      exact q3 zv H' a1 a2
theorem se_op {op : Operator} {f : D → D → Option R} (ho : OpR X (binaryOp op) (rD X.K f)) (ha : PE X a (tE (gX X T W Z) da)) (hb : PE X b (tE (gX X T W Z) db)) : PE X (.BinOp a op b pos) (tE (gX X T W Z) (dOp f da db)) :=
  PE.imp (pe_op ho ha hb) fun σ H Q h => se_two (t := fun ta tb => tOp (rD X.K f) ta tb) rfl (fun _ _ _ _ z => z) σ H Q h
theorem se_cmp {op : CmpOp} {f : D → D → Option R} (ho : OpR X (compareOp op) (rD X.K f)) (ha : PE X a (tE (gX X T W Z) da)) (hb : PE X b (tE (gX X T W Z) db)) (hm : behindInMarks op b = false) : PE X (.Compare a [op] [b] pos) (tE (gX X T W Z) (dOp f da db)) :=
  PE.imp (pe_cmpR ho ha hb hm) fun σ H Q h => se_two (t := fun ta tb => tOp (rD X.K f) ta tb) rfl (fun _ _ _ _ z => z) σ H Q h
theorem se_ix {f : D → D → Option R} (ho : IxR X (rD X.K f)) (hs : PlainIx b) (ha : PE X a (tE (gX X T W Z) da)) (hb : PE X b (tE (gX X T W Z) db)) : PE X (.Subscript a b pos) (tE (gX X T W Z) (dOp f da db)) :=
  PE.imp (pe_ix ho ha hb hs) fun σ H Q h => se_two (t := fun ta tb => tOp (rD X.K f) ta tb) rfl (fun _ _ _ _ z => z) σ H Q h
theorem se_un {op : UnaryOp} {f : D → Option R} (ho : UnR X (unaryOp op) (rD1 X.K f)) (ha : PE X a (tE (gX X T W Z) da)) : PE X (.UnaryOp op a pos) (tE (gX X T W Z) (dUn f da)) := by
  refine PE.imp (pe_un ho ha) fun σ H Q h => ?_
  obtain ⟨r, S, q⟩ := h
  refine ⟨r, S, aft_mono (aft_bind q) (fun x r1 q1 v H1 E1 R1 => ?_) fun _ _ z => z⟩
  obtain ⟨z, hz, q3⟩ := aft_opt q1
  cases hu : der r1 x with
  | none => rw [hu] at hz; cases hz
  | some u =>
    rw [hu] at hz
    refine ⟨MuZ Z r1 σ, u, z, E1.sim.min, (R1.holds S E1).der E1.sim hu, hz, fun zv H' ex nw => ?_⟩
    obtain ⟨a1, a2⟩ := NewR.res S E1 ex nw
    exact q3 zv H' a1 a2

variable {es : List Expr} {dr : DR} {dA : DA}
theorem star_cons {X : Cx} {e : Expr} {es : List Expr} (h : ∀ a p, e ≠ .Starred a p) : starEach (e :: es) X.env = (false, eval e X.env) :: starEach es X.env := by
  cases e <;> first | rfl | exact absurd rfl (h _ _)
theorem sr_nil : PA X [] (tR (gX X T W Z) rNil) := PA.imp pa_nil fun σ H Q ⟨r, S, q⟩ => q [] H (EvE.refl S) rfl
theorem sr_cons (hs : ∀ a p, e ≠ .Starred a p) (ha : PE X e (tE (gX X T W Z) da)) (hr : PA X es (tR (gX X T W Z) dr)) : PA X (e :: es) (tR (gX X T W Z) (rCons da dr)) := by
  refine PA.imp (pa_cons ha hr (star_cons hs)) fun σ H Q h => ?_
  obtain ⟨r, S, q⟩ := h
  refine ⟨r, S, aft_mono (aft_bind q) (fun x r1 q1 v H1 E1 R1 => ?_) fun _ _ z => z⟩
  refine ⟨r1, E1.sim, aft_mono (aft_bind q1) (fun xs r2 q2 vs H2 E2 R2 => ?_) fun _ _ z => exW.then S E1 z⟩
  exact q2 (v :: vs) H2 (E1.trans S E2) ⟨v, vs, rfl, (R1.holds S E1).kept E1.sim E2, R2⟩
theorem getSet {r : Env} {i j : Nat} {s t : Sl} (h : (r.set i s)[j]? = some t) : (i = j ∧ t = s ∧ i < r.length) ∨ (i ≠ j ∧ r[j]? = some t) := by
  rw [List.getElem?_set] at h
  by_cases e : i = j
  · rw [if_pos e] at h
    by_cases l : i < r.length
    · rw [if_pos l] at h
      exact .inl ⟨e, (Option.some.inj h).symm, l⟩
    · rw [if_neg l] at h; cases h
  · rw [if_neg e] at h
    exact .inr ⟨e, h⟩
/-- a value is given away: its slot's object is no more its own -/
theorem esc_ok {K : PySem.W.Frag} {r r1 : Env} {σ : L2.St} {H : Hp} {x : R} {v : V} {d : D} (S : SimZ K T Z r σ H) (h : Holds K Z r σ H x v) (e : esc r x = some (d, r1)) :
    EvE K T Z r σ H r1 H ∧ Rp K (MuZ Z r1 σ) H d v := by
  cases x with
  | va d' =>
    cases e
    exact ⟨EvE.refl S, h⟩
  | nw d' =>
    cases e
    obtain ⟨a, ev, n, o⟩ := h
    refine ⟨EvE.refl S, ?_⟩
    subst ev
    have na : ¬ MuZ Z r σ a := fun z => z.elim n.1 n.2
    cases d with
    | list ds =>
      obtain ⟨vs, e1, q⟩ := o
      simp only [Rp]
      exact ⟨a, vs, rfl, .inl ⟨.inl e1, na⟩, q⟩
    | dict kvs =>
      simp only [Rp]
      rcases o with ⟨ks, e1, q⟩ | ⟨ks, e1, q⟩
      · simp only [Bool.false_eq_true, if_false] at e1
        exact ⟨a, rfl, na, .inl ⟨ks, .inl e1, q⟩⟩
      · simp only [Bool.false_eq_true, if_false] at e1
        exact ⟨a, rfl, na, .inr ⟨ks, .inl e1, q⟩⟩
    | tuple ds => exact o.elim
    | none => exact o.elim
    | bool b => exact o.elim
    | int i => exact o.elim
    | str x => exact o.elim
  | sl i =>
    obtain ⟨h1, d', h2⟩ := h
    rcases h2 with ⟨p, h2⟩ | ⟨p, l, h2⟩
    · simp only [esc, h2] at e
      cases e
      obtain ⟨w, a1, a2⟩ := S.va i p _ h2
      rw [h1] at a1
      cases a1
      exact ⟨EvE.refl S, a2⟩
    · cases l with
      | true => simp only [esc, h2] at e; cases e
      | false =>
        simp only [esc, h2] at e
        cases e
        obtain ⟨a, a1, o⟩ := S.ow i p _ _ h2
        rw [h1] at a1
        cases a1
        have hi : i < r.length := (List.getElem?_eq_some_iff.mp h2).1
        have mu : ∀ b, Mu (r.set i (.va p d)) σ b → Mu r σ b ∧ b ≠ a := by
          rintro b ⟨j, q, l, d2, h3, h4⟩
          rcases getSet h3 with ⟨_, z, _⟩ | ⟨ne, h3⟩
          · cases z
          · exact ⟨⟨j, q, l, d2, h3, h4⟩, fun z => ne (S.inj i j p q false l d d2 a h2 h3 h1 (by rw [← z]; exact h4))⟩
        have k : Kept (MuZ Z r σ) (MuZ Z (r.set i (.va p d)) σ) H H := Kept.less fun b z => z.elim (fun z => .inl (mu b z).1) .inr
        have na : ¬ MuZ Z (r.set i (.va p d)) σ a := fun z => z.elim (fun z => (mu a z).2 rfl) fun z => S.apart a z ⟨i, p, false, d, h2, h1⟩
        have rp : Rp K (MuZ Z (r.set i (.va p d)) σ) H d (.ref a) := by
          have o' := o.kept k fun _ z => z
          cases d with
          | list ds =>
            obtain ⟨vs, e1, q⟩ := o'
            simp only [Rp]
            exact ⟨a, vs, rfl, .inl ⟨.inl e1, na⟩, q⟩
          | dict kvs =>
            simp only [Rp]
            rcases o' with ⟨ks, e1, q⟩ | ⟨ks, e1, q⟩
            · simp only [Bool.false_eq_true, if_false] at e1
              exact ⟨a, rfl, na, .inl ⟨ks, .inl e1, q⟩⟩
            · simp only [Bool.false_eq_true, if_false] at e1
              exact ⟨a, rfl, na, .inr ⟨ks, .inl e1, q⟩⟩
          | tuple ds => exact o'.elim
          | none => exact o'.elim
          | bool b => exact o'.elim
          | int i => exact o'.elim
          | str x => exact o'.elim
        refine ⟨⟨⟨by rw [List.length_set]; exact S.len, fun j q d2 h3 => ?_, fun j q l d2 h3 => ?_, fun j j' q q' l l' d2 d3 b h3 h4 h5 h6 => ?_, fun b z m => S.apart b z (mu b m).1, S.zin, S.tabs⟩, fun _ _ h _ _ => h, fun _ h => h, fun j s h3 => ?_⟩, rp⟩
        · rcases getSet h3 with ⟨z1, z2, _⟩ | ⟨_, h3⟩
          · cases z2
            subst z1
            exact ⟨.ref a, h1, rp⟩
          · obtain ⟨w, b1, b2⟩ := S.va j q d2 h3
            exact ⟨w, b1, Rp.kept k d2 w b2⟩
        · rcases getSet h3 with ⟨_, z2, _⟩ | ⟨_, h3⟩
          · cases z2
          · obtain ⟨w, b1, b2⟩ := S.ow j q l d2 h3
            exact ⟨w, b1, b2.kept k fun _ z => z⟩
        · rcases getSet h3 with ⟨_, z2, _⟩ | ⟨_, h3⟩
          · cases z2
          · rcases getSet h4 with ⟨_, z2, _⟩ | ⟨_, h4⟩
            · cases z2
            · exact S.inj j j' q q' l l' d2 d3 b h3 h4 h5 h6
        · by_cases ij : i = j
          · subst ij
            rw [h2] at h3
            cases h3
            exact ⟨_, List.getElem?_set_self hi, .inr ⟨rfl, d, rfl⟩⟩
          · exact ⟨s, by rw [List.getElem?_set_ne ij]; exact h3, SlE.refl s⟩
theorem sa_nil : PA X [] (tA (gX X T W Z) aNil) := PA.imp pa_nil fun σ H Q ⟨r, S, q⟩ => q [] H (EvE.refl S) RpL.nil
theorem sa_cons (hs : ∀ a p, e ≠ .Starred a p) (ha : PE X e (tE (gX X T W Z) da)) (hr : PA X es (tA (gX X T W Z) dA)) : PA X (e :: es) (tA (gX X T W Z) (aCons da dA)) := by
  refine PA.imp (pa_cons ha hr (star_cons hs)) fun σ H Q h => ?_
  obtain ⟨r, S, q⟩ := h
  refine ⟨r, S, aft_mono (aft_bind q) (fun x r1 q1 v H1 E1 R1 => ?_) fun _ _ z => z⟩
  cases hx : esc r1 x with
  | none => rw [hx] at q1; exact q1.elim
  | some p =>
    obtain ⟨d, r2⟩ := p
    rw [hx] at q1
    obtain ⟨E2, rp⟩ := esc_ok E1.sim (R1.holds S E1) hx
    have E12 := E1.trans S E2
    refine ⟨r2, E2.sim, aft_mono (aft_bind q1) (fun ds r3 q3 vs H3 E3 R3 => ?_) fun _ _ z => exW.then S E12 z⟩
    exact q3 (v :: vs) H3 (E12.trans S E3) (RpL.cons (Rp.kept (E3.kept E2.sim) _ _ rp) R3)
theorem lim_eq : lim = sizeLine := by rw [sizeLine_eq]; rfl
theorem se_tup {k : Nat} (h : PA X es (tA (gX X T W Z) dA)) : PE X (.Tuple es k pos) (tE (gX X T W Z) (dTup dA)) := by
  refine PE.imp (pe_tup h) fun σ H Q hq => ?_
  obtain ⟨r, S, q⟩ := hq
  refine ⟨r, S, aft_mono (aft_bind q) (fun ds r1 q1 vs H1 E1 R1 => ?_) fun _ _ z => z⟩
  by_cases hl : ds.length ≤ lim
  · rw [if_pos hl] at q1
    refine ⟨by rw [← R1.length, ← lim_eq]; exact hl, fun p hp => ?_⟩
    have ex : Ext H1 (upd H1 p (.tup vs)) := Ext.new hp
    have np : ¬ MuZ Z r1 σ p := fun z => z.elim (fun z => by obtain ⟨o, ho⟩ := E1.sim.mem z; rw [hp] at ho; cases ho) fun z => (E1.sim.zin p z).1 hp
    obtain ⟨a1, a2⟩ := NewR.res (q := .va (.tuple ds)) (z := .ref p) S E1 ex (show Rp X.K _ _ (.tuple ds) (.ref p) by
      simp only [Rp]
      exact ⟨p, vs, rfl, .inl ⟨.inl upd_same, np⟩, RpL.kept ⟨fun a o h _ _ => ex a o h, fun _ z => .inl z⟩ _ _ R1⟩)
    exact q1 _ _ a1 a2
  · rw [if_neg hl] at q1; exact q1.elim
theorem se_lst (h : PA X es (tA (gX X T W Z) dA)) : PE X (.List es pos) (tE (gX X T W Z) (dLst dA)) := by
  refine PE.imp (pe_lst h) fun σ H Q hq => ?_
  obtain ⟨r, S, q⟩ := hq
  refine ⟨r, S, aft_mono (aft_bind q) (fun ds r1 q1 vs H1 E1 R1 => ?_) fun _ _ z => z⟩
  by_cases hl : ds.length ≤ lim
  · rw [if_pos hl] at q1
    refine ⟨by rw [← R1.length, ← lim_eq]; exact hl, fun p hp => ?_⟩
    have ex : Ext H1 (upd H1 p (.lst vs)) := Ext.new hp
    obtain ⟨a1, a2⟩ := NewR.res (q := .nw (.list ds)) (z := .ref p) S E1 ex ⟨p, rfl, hp, vs, upd_same, RpL.kept ⟨fun a o h _ _ => ex a o h, fun a z => z.elim .inl fun z => .inr (by rw [z]; exact hp)⟩ _ _ R1⟩
    exact q1 _ _ a1 a2
  · rw [if_neg hl] at q1; exact q1.elim
theorem se_b {f : List D → Option R} {t : TA → TE} {rr : List V → Hp → VK → Prop} (ht : t = fun ta σ H Q => ta σ H fun vs H1 => rr vs H1 Q) (hr : ∀ xs H Q, rDs X.K f xs H Q → rr xs H Q)
    (σ : L2.St) (H : Hp) (Q : VK) (h : tE (gX X T W Z) (dB f dr) σ H Q) : t (tR (gX X T W Z) dr) σ H Q := by
  subst ht
  obtain ⟨r, S, q⟩ := h
  refine ⟨r, S, aft_mono (aft_bind q) (fun xs r1 q1 vs H1 E1 R1 => ?_) fun _ _ z => z⟩
  obtain ⟨z, hz, q3⟩ := aft_opt q1
  cases hu : ders r1 xs with
  | none => rw [hu] at hz; cases hz
  | some ds =>
    rw [hu] at hz
    refine hr _ _ _ ⟨MuZ Z r1 σ, ds, z, E1.sim.min, HoldsL.ders E1.sim R1 hu, hz, fun zv H' ex nw => ?_⟩
    obtain ⟨a1, a2⟩ := NewR.res S E1 ex nw
    exact q3 zv H' a1 a2
theorem star_not {X : Cx} {pos : Pos} : ∀ {es : List Expr}, (∀ e ∈ es, ∀ a p, e ≠ .Starred a p) → (backTo pos (starEach es X.env)).any (·.1) = false
  | [], _ => rfl
  | e :: es, h => by
    rw [star_cons (h e List.mem_cons_self)]
    show (false || (backTo pos (starEach es X.env)).any (·.1)) = false
    rw [Bool.false_or]
    exact star_not fun e' he => h e' (List.mem_cons_of_mem _ he)
theorem se_callB {f : List D → Option R} {x : Str} {id : String} {p : Pos} (hc : CallR X (.builtin id) (rDs X.K f)) (hg : Gl X x) (hm : X.mg x = none) (hv : bootBuiltins x = some (.builtin id)) (hn : x ≠ "__name__") (hd : (x == ("__debug__" : Str)) = false)
    (hs : ∀ a ∈ e :: es, ∀ b p, a ≠ .Starred b p) (ha : PA X (e :: es) (tR (gX X T W Z) dr)) : PE X (.Call (.Name x p) (e :: es) [] pos) (tE (gX X T W Z) (dB f dr)) :=
  PE.imp (pe_callB hc hg hm hv ha hn hd (star_cons (hs e List.mem_cons_self)) (star_not fun a h => hs a (List.mem_cons_of_mem _ h))) fun σ H Q h => se_b (t := fun ta => tCB (rDs X.K f) ta) rfl (fun _ _ _ z => z) σ H Q h
theorem se_callTy {f : List D → Option R} {x : Str} {ty : String} {p : Pos} (hc : CallR X (.type ty) (rDs X.K f)) (hg : Gl X x) (hm : X.mg x = none) (hv : bootBuiltins x = some (.type ty)) (hn : x ≠ "__name__") (hd : (x == ("__debug__" : Str)) = false)
    (hs : ∀ a ∈ e :: es, ∀ b p, a ≠ .Starred b p) (ha : PA X (e :: es) (tR (gX X T W Z) dr)) : PE X (.Call (.Name x p) (e :: es) [] pos) (tE (gX X T W Z) (dB f dr)) :=
  PE.imp (pe_callTy hc hg hm hv ha hn hd (star_cons (hs e List.mem_cons_self)) (star_not fun a h => hs a (List.mem_cons_of_mem _ h))) fun σ H Q h => se_b (t := fun ta => tCB (rDs X.K f) ta) rfl (fun _ _ _ z => z) σ H Q h
end
end SE
set_option Elab.async false
set_option linter.all false
set_option maxRecDepth 100000
set_option maxHeartbeats 1000000
namespace SE
open PySem L2
def tB (a : DE) : DT := fun r => (a r).bind fun x r1 => opt ((der r1 x).bind asB) r1
theorem PE.best {X : Cx} {e : Expr} {t' : TE} (k : ∀ σ H Q, t' σ H Q → ∃ t, PE X e t ∧ t σ H Q) : PE X e t' := ⟨fun p s σ H Q I q => by
  obtain ⟨t, h, z⟩ := k σ H Q q
  exact h.run p s σ H Q I z⟩
section
variable {X : Cx} {T : List (Addr × Str)} {W : WX} {Z : Addr → Prop} {a b c e : Expr} {da db dc : DE} {ta tb : DT} {pos : Pos} {rest : List Expr}
/-- a value's reading in two steps -/
theorem bind_some2 {α β : Type} {o : Option α} {f : α → Option β} {b : β} (h : o.bind f = some b) : ∃ a, o = some a ∧ f a = some b := by
  cases o with
  | none => cases h
  | some a => exact ⟨a, rfl, h⟩
theorem rpI_bool {K : PySem.W.Frag} {M : Addr → Prop} {H : Hp} {d : D} {v : V} {k : Bool} (h : RpI K M H d v) (e : asB d = some k) : v = .bl k := by
  cases d <;> first | (cases e; exact (by simpa only [RpI, Rp] using h)) | cases e
theorem rpI_int {K : PySem.W.Frag} {M : Addr → Prop} {H : Hp} {d : D} {v : V} {k : Int} (h : RpI K M H d v) (e : asI d = some k) : v = .int k := by
  cases d <;> first | (cases e; exact (by simpa only [RpI, Rp] using h)) | cases e
/-- a test whose value is a bool -/
theorem st_ofB {tt : TE → TT} (ht : tt = fun t σ H Q => t σ H fun x H' => ∃ k, x = .bl k ∧ Q k H') (σ : L2.St) (H : Hp) (Q : Bool → Hp → Prop) (h : tT (gX X T W Z) (tB da) σ H Q) : tt (tE (gX X T W Z) da) σ H Q := by
  subst ht
  obtain ⟨r, S, q⟩ := h
  refine ⟨r, S, aft_mono (aft_bind q) (fun x r1 q1 v H1 E1 R1 => ?_) fun _ _ z => z⟩
  obtain ⟨k, hk, q2⟩ := aft_opt q1
  obtain ⟨d, hd, hb⟩ := bind_some2 hk
  exact ⟨k, rpI_bool ((R1.holds S E1).der E1.sim hd) hb, q2 H1 E1⟩
theorem st_cmp {op : CmpOp} {f : D → D → Option R} (ho : OpR X (compareOp op) (rD X.K f)) (ha : PE X a (tE (gX X T W Z) da)) (hb : PE X b (tE (gX X T W Z) db)) (hm : behindInMarks op b = false) : PT X (.Compare a [op] [b] pos) (tT (gX X T W Z) (tB (dOp f da db))) := by
  refine PT.imp (pt_cmpR ho ha hb hm) fun σ H Q h => ?_
  exact se_two (t := fun ta tb => tOp (rD X.K f) ta tb) rfl (fun _ _ _ _ z => z) σ H _ (st_ofB (tt := fun t => tTest t) rfl σ H Q h)
theorem truth_ok {K : PySem.W.Frag} {M : Addr → Prop} {H : Hp} {d : D} {v : V} {k : Bool} (h : RpI K M H d v) (e : truth d = some k) : TruV K v H k := by
  cases d with
  | none => cases e; have h : v = .non := (by simpa only [RpI, Rp] using h); rw [h]; exact rfl
  | bool b => cases e; have h : v = .bl k := (by simpa only [RpI, Rp] using h); rw [h]; exact rfl
  | int i => cases e; have h : v = .int i := (by simpa only [RpI, Rp] using h); rw [h]; exact rfl
  | str s =>
    have h : v = .str s := (by simpa only [RpI, Rp] using h)
    simp only [truth] at e
    by_cases hl : s.length ≤ lim
    · rw [if_pos hl] at e
      cases e
      rw [h]
      refine ⟨by rw [← lim_eq]; exact hl, ?_⟩
      cases hs : s.length with
      | zero => rfl
      | succ n =>
        have e1 : ((n + 1 : Nat) != 0) = true := by simp
        have e2 : (((n + 1 : Nat) : Int) != 0) = true := by
          rw [bne_iff_ne]
          omega
        rw [e1, e2]
    · rw [if_neg hl] at e; cases e
  | list xs =>
    obtain ⟨p, vs, ev, hq, rl⟩ := h
    cases e
    rw [ev]
    refine .inl ⟨vs, hq, ?_⟩
    have := rl.length
    cases xs with
    | nil => cases vs with
      | nil => rfl
      | cons _ _ => cases this
    | cons _ _ => cases vs with
      | nil => cases this
      | cons _ _ => rfl
  | tuple xs =>
    obtain ⟨p, vs, ev, hq, rl⟩ := h
    cases e
    rw [ev]
    refine .inr (.inl ⟨vs, hq, ?_⟩)
    have := rl.length
    cases xs with
    | nil => cases vs with
      | nil => rfl
      | cons _ _ => cases this
    | cons _ _ => cases vs with
      | nil => cases this
      | cons _ _ => rfl
  | dict kvs => cases e
/-- a value's truth -/
theorem st_val (ha : PE X a (tE (gX X T W Z) da)) (he : ∀ whole, isTrue a X.env whole = (do let v ← whole; standAt a.pos; holding [v] (truthy v))) : PT X a (tT (gX X T W Z) (tVal da)) := by
  refine PT.imp (pt_truth ha he) fun σ H Q h => ?_
  obtain ⟨r, S, q⟩ := h
  refine ⟨r, S, aft_mono (aft_bind q) (fun x r1 q1 v H1 E1 R1 => ?_) fun _ _ z => z⟩
  obtain ⟨k, hk, q2⟩ := aft_opt q1
  obtain ⟨d, hd, hb⟩ := bind_some2 hk
  exact ⟨k, truth_ok ((R1.holds S E1).der E1.sim hd) hb, q2 H1 E1⟩
theorem sw_and1 (ha : PT X a (tT (gX X T W Z) ta)) : PW X (.BoolOp .And [a] pos) (tT (gX X T W Z) ta) := pw_and1 ha
theorem sw_or1 (ha : PT X a (tT (gX X T W Z) ta)) : PW X (.BoolOp .Or [a] pos) (tT (gX X T W Z) ta) := pw_or1 ha
theorem sw_and (ha : PT X a (tT (gX X T W Z) ta)) (hb : PW X (.BoolOp .And (b :: rest) pos) (tT (gX X T W Z) tb)) : PW X (.BoolOp .And (a :: b :: rest) pos) (tT (gX X T W Z) (SE.tAnd ta tb)) := by
  refine PW.imp (pw_and ha hb) fun σ H Q h => ?_
  obtain ⟨r, S, q⟩ := h
  refine ⟨r, S, aft_mono (aft_bind q) (fun k r1 q1 H1 E1 => ?_) fun _ _ z => z⟩
  cases k with
  | true =>
    rw [if_pos rfl] at q1 ⊢
    exact ⟨r1, E1.sim, aft_mono q1 (fun k r2 q2 H2 E2 => q2 H2 (E1.trans S E2)) fun _ _ z => exW.then S E1 z⟩
  | false =>
    rw [if_neg Bool.false_ne_true] at q1 ⊢
    exact q1 H1 E1
theorem sw_or (ha : PT X a (tT (gX X T W Z) ta)) (hb : PW X (.BoolOp .Or (b :: rest) pos) (tT (gX X T W Z) tb)) : PW X (.BoolOp .Or (a :: b :: rest) pos) (tT (gX X T W Z) (SE.tOr ta tb)) := by
  refine PW.imp (pw_or ha hb) fun σ H Q h => ?_
  obtain ⟨r, S, q⟩ := h
  refine ⟨r, S, aft_mono (aft_bind q) (fun k r1 q1 H1 E1 => ?_) fun _ _ z => z⟩
  cases k with
  | false =>
    rw [if_neg Bool.false_ne_true] at q1 ⊢
    exact ⟨r1, E1.sim, aft_mono q1 (fun k r2 q2 H2 E2 => q2 H2 (E1.trans S E2)) fun _ _ z => exW.then S E1 z⟩
  | true =>
    rw [if_pos rfl] at q1 ⊢
    exact q1 H1 E1
theorem st_not (ha : PT X a (tT (gX X T W Z) ta)) : PT X (.UnaryOp .Not a pos) (tT (gX X T W Z) (SE.tNot ta)) := by
  refine PT.imp (pt_not ha) fun σ H Q h => ?_
  obtain ⟨r, S, q⟩ := h
  exact ⟨r, S, aft_mono (aft_bind q) (fun k r1 q1 H1 E1 => q1 H1 E1) fun _ _ z => z⟩
theorem se_and (ha : PE X a (tE (gX X T W Z) da)) (hb : PE X (.BoolOp .And (b :: rest) pos) (tE (gX X T W Z) db)) : PE X (.BoolOp .And (a :: b :: rest) pos) (tE (gX X T W Z) (dAnd da db)) := by
  refine PE.imp (pe_and ha hb) fun σ H Q h => ?_
  obtain ⟨r, S, q⟩ := h
  refine ⟨r, S, aft_mono (aft_bind q) (fun x r1 q1 v H1 E1 R1 => ?_) fun _ _ z => z⟩
  obtain ⟨k, hk, q2⟩ := aft_opt (aft_bind q1)
  obtain ⟨d, hd, hb⟩ := bind_some2 hk
  refine ⟨k, rpI_bool ((R1.holds S E1).der E1.sim hd) hb, ?_⟩
  cases k with
  | true =>
    rw [if_pos rfl] at q2 ⊢
    exact ⟨r1, E1.sim, aft_mono q2 (fun x r2 q3 w H2 E2 R2 => q3 w H2 (E1.trans S E2) (by
      cases x with
      | va d => exact R2
      | nw d => obtain ⟨p, e1, e2, e3⟩ := R2; exact ⟨p, e1, E1.dom p e2, e3⟩
      | sl i => exact R2)) fun _ _ z => exW.then S E1 z⟩
  | false =>
    rw [if_neg Bool.false_ne_true] at q2 ⊢
    exact q2 _ H1 E1 (by simp only [ResR, Rp])
theorem ResR.back {K : PySem.W.Frag} {r r1 r2 : Env} {σ : L2.St} {H H1 H2 : Hp} {x : R} {v : V} (S : SimZ K T Z r σ H) (E : EvE K T Z r σ H r1 H1) (h : ResR K T Z σ H1 r2 H2 x v) : ResR K T Z σ H r2 H2 x v := by
  cases x with
  | va d => exact h
  | nw d => obtain ⟨p, e1, e2, e3⟩ := h; exact ⟨p, e1, E.dom p e2, e3⟩
  | sl i => exact h
theorem se_or (ha : PE X a (tE (gX X T W Z) da)) (hb : PE X (.BoolOp .Or (b :: rest) pos) (tE (gX X T W Z) db)) : PE X (.BoolOp .Or (a :: b :: rest) pos) (tE (gX X T W Z) (dOr da db)) := by
  refine PE.imp (pe_or ha hb) fun σ H Q h => ?_
  obtain ⟨r, S, q⟩ := h
  refine ⟨r, S, aft_mono (aft_bind q) (fun x r1 q1 v H1 E1 R1 => ?_) fun _ _ z => z⟩
  obtain ⟨k, hk, q2⟩ := aft_opt (aft_bind q1)
  obtain ⟨d, hd, hb⟩ := bind_some2 hk
  refine ⟨k, rpI_bool ((R1.holds S E1).der E1.sim hd) hb, ?_⟩
  cases k with
  | false =>
    rw [if_neg Bool.false_ne_true] at q2 ⊢
    exact ⟨r1, E1.sim, aft_mono q2 (fun x r2 q3 w H2 E2 R2 => q3 w H2 (E1.trans S E2) (R2.back S E1)) fun _ _ z => exW.then S E1 z⟩
  | true =>
    rw [if_pos rfl] at q2 ⊢
    exact q2 _ H1 E1 (by simp only [ResR, Rp])
theorem se_one {op : BoolOp} (ha : PE X a (tE (gX X T W Z) da)) : PE X (.BoolOp op [a] pos) (tE (gX X T W Z) da) := pe_one ha
theorem se_not (ha : PE X a (tE (gX X T W Z) da)) : PE X (.UnaryOp .Not a pos) (tE (gX X T W Z) (dNot da)) := by
  refine PE.imp (pe_notT ha) fun σ H Q h => ?_
  obtain ⟨r, S, q⟩ := h
  refine ⟨r, S, aft_mono (aft_bind q) (fun x r1 q1 v H1 E1 R1 => ?_) fun _ _ z => z⟩
  obtain ⟨k, hk, q2⟩ := aft_opt (aft_bind q1)
  obtain ⟨d, hd, hb⟩ := bind_some2 hk
  exact ⟨k, truth_ok ((R1.holds S E1).der E1.sim hd) hb, q2 _ H1 E1 (by simp only [ResR, Rp])⟩
theorem se_if (hc : PT X c (tT (gX X T W Z) ta)) (ha : PE X a (tE (gX X T W Z) da)) (hb : PE X b (tE (gX X T W Z) db)) : PE X (.IfExp c a b pos) (tE (gX X T W Z) (dIf ta da db)) := by
  refine PE.imp (pe_ifExp hc ha hb) fun σ H Q h => ?_
  obtain ⟨r, S, q⟩ := h
  refine ⟨r, S, aft_mono (aft_bind q) (fun k r1 q1 H1 E1 => ?_) fun _ _ z => z⟩
  cases k with
  | true =>
    rw [if_pos rfl] at q1 ⊢
    exact ⟨r1, E1.sim, aft_mono q1 (fun x r2 q3 w H2 E2 R2 => q3 w H2 (E1.trans S E2) (R2.back S E1)) fun _ _ z => exW.then S E1 z⟩
  | false =>
    rw [if_neg Bool.false_ne_true] at q1 ⊢
    exact ⟨r1, E1.sim, aft_mono q1 (fun x r2 q3 w H2 E2 R2 => q3 w H2 (E1.trans S E2) (R2.back S E1)) fun _ _ z => exW.then S E1 z⟩
/-- a op b op' c -/
theorem se_chain {op op' : CmpOp} {f f' : D → D → Option R} (ho : OpR X (compareOp op) (rD X.K f)) (ho' : OpR X (compareOp op') (rD X.K f')) (ha : PE X a (tE (gX X T W Z) da)) (hb : PE X b (tE (gX X T W Z) db)) (hc : PE X c (tE (gX X T W Z) dc))
    (hm : lastMarks [op, op'] [b, c] = false) : PE X (.Compare a [op, op'] [b, c] pos) (tE (gX X T W Z) (dChain f f' da db dc)) := by
  refine PE.imp (pe_chain ho ho' ha hb hc hm) fun σ H Q h => ?_
  obtain ⟨r, S, q⟩ := h
  refine ⟨r, S, aft_mono (aft_bind q) (fun x r1 q1 v H1 E1 R1 => ?_) fun _ _ z => z⟩
  refine ⟨r1, E1.sim, aft_mono (aft_bind q1) (fun y r2 q2 w H2 E2 R2 => ?_) fun _ _ z => exW.then S E1 z⟩
  have E12 := E1.trans S E2
  obtain ⟨k, hk, q3⟩ := aft_opt (aft_bind q2)
  obtain ⟨u, hu, hk⟩ := bind_some2 hk
  obtain ⟨u2, hv, hk⟩ := bind_some2 hk
  obtain ⟨z, hz, hk⟩ := bind_some2 hk
  have hx2 := (R1.holds S E1).kept E1.sim E2
  have hy2 := R2.holds E1.sim E2
  refine ⟨MuZ Z r2 σ, u, u2, z, E2.sim.min, hx2.der E2.sim hu, hy2.der E2.sim hv, hz, fun zv H' ex nw => ?_⟩
  obtain ⟨E3, R3⟩ := NewR.res S E12 ex nw
  obtain ⟨d, hd, hb⟩ := bind_some2 hk
  refine ⟨k, rpI_bool ((R3.holds S E3).der E3.sim hd) hb, ?_⟩
  cases k with
  | false =>
    rw [if_neg Bool.false_ne_true] at q3 ⊢
    exact q3 _ H' E3 (by simp only [ResR, Rp])
  | true =>
    rw [if_pos rfl] at q3 ⊢
    refine ⟨r2, E3.sim, aft_mono (aft_bind q3) (fun y2 r4 q4 w4 H4 E4 R4 => ?_) fun _ _ z => exW.then S E3 z⟩
    obtain ⟨z4, hz4, q5⟩ := aft_opt q4
    obtain ⟨u4, hu4, hz4⟩ := bind_some2 hz4
    obtain ⟨u5, hu5, hz4⟩ := bind_some2 hz4
    have hy3 := hy2.kept E2.sim (EvE.ext E2.sim ex)
    refine ⟨MuZ Z r4 σ, u4, u5, z4, E4.sim.min, (hy3.kept E3.sim E4).der E4.sim hu4, (R4.holds E3.sim E4).der E4.sim hu5, hz4, fun zv5 H5 ex5 nw5 => ?_⟩
    obtain ⟨E5, R5⟩ := NewR.res S (E3.trans S E4) ex5 nw5
    exact q5 zv5 H5 E5 R5
theorem st_chain {op op' : CmpOp} {f f' : D → D → Option R} (ho : OpR X (compareOp op) (rD X.K f)) (ho' : OpR X (compareOp op') (rD X.K f')) (ha : PE X a (tE (gX X T W Z) da)) (hb : PE X b (tE (gX X T W Z) db)) (hc : PE X c (tE (gX X T W Z) dc))
    (hm : lastMarks [op, op'] [b, c] = false) : PT X (.Compare a [op, op'] [b, c] pos) (tT (gX X T W Z) (tB (dChain f f' da db dc))) := by
  refine PT.imp (pt_chain ho ho' ha hb hc hm) fun σ H Q h => ?_
  obtain ⟨r, S, q⟩ := h
  refine ⟨r, S, aft_mono (aft_bind (aft_bind q)) (fun x r1 q1 v H1 E1 R1 => ?_) fun _ _ z => z⟩
  refine ⟨r1, E1.sim, aft_mono (aft_bind q1) (fun y r2 q2 w H2 E2 R2 => ?_) fun _ _ z => exW.then S E1 z⟩
  have E12 := E1.trans S E2
  obtain ⟨k, hk, q3⟩ := aft_opt (aft_bind q2)
  obtain ⟨u, hu, hk⟩ := bind_some2 hk
  obtain ⟨u2, hv, hk⟩ := bind_some2 hk
  obtain ⟨z, hz, hk⟩ := bind_some2 hk
  have hx2 := (R1.holds S E1).kept E1.sim E2
  have hy2 := R2.holds E1.sim E2
  refine ⟨MuZ Z r2 σ, u, u2, z, E2.sim.min, hx2.der E2.sim hu, hy2.der E2.sim hv, hz, fun zv H' ex nw => ?_⟩
  obtain ⟨E3, R3⟩ := NewR.res S E12 ex nw
  obtain ⟨d, hd, hb⟩ := bind_some2 hk
  refine ⟨k, rpI_bool ((R3.holds S E3).der E3.sim hd) hb, ?_⟩
  cases k with
  | false =>
    rw [if_neg Bool.false_ne_true] at q3 ⊢
    exact ⟨false, rfl, q3 H' E3⟩
  | true =>
    rw [if_pos rfl] at q3 ⊢
    refine ⟨r2, E3.sim, aft_mono (aft_bind q3) (fun y2 r4 q4 w4 H4 E4 R4 => ?_) fun _ _ z => exW.then S E3 z⟩
    obtain ⟨z4, hz4, q5⟩ := aft_opt q4
    obtain ⟨u4, hu4, hz4⟩ := bind_some2 hz4
    obtain ⟨u5, hu5, hz4⟩ := bind_some2 hz4
    have hy3 := hy2.kept E2.sim (EvE.ext E2.sim ex)
    refine ⟨MuZ Z r4 σ, u4, u5, z4, E4.sim.min, (hy3.kept E3.sim E4).der E4.sim hu4, (R4.holds E3.sim E4).der E4.sim hu5, hz4, fun zv5 H5 ex5 nw5 => ?_⟩
    obtain ⟨E5, R5⟩ := NewR.res S (E3.trans S E4) ex5 nw5
    obtain ⟨k5, hk5, q6⟩ := aft_opt q5
    obtain ⟨d5, hd5, hb5⟩ := bind_some2 hk5
    exact ⟨k5, rpI_bool ((R5.holds S E5).der E5.sim hd5) hb5, q6 H5 E5⟩
variable {lo hi : Option Expr} {dl dh : DO} {p2 : Pos}
theorem so_none : PO X none (tO (gX X T W Z) oNone) := PO.imp po_none fun σ H Q ⟨r, S, q⟩ => q H (EvE.refl S)
theorem so_some (h : PE X e (tE (gX X T W Z) da)) : PO X (some e) (tO (gX X T W Z) (oSome da)) := by
  refine PO.imp (po_some h) fun σ H Q hq => ?_
  obtain ⟨r, S, q⟩ := hq
  refine ⟨r, S, aft_mono (aft_bind q) (fun x r1 q1 v H1 E1 R1 => ?_) fun _ _ z => z⟩
  obtain ⟨k, hk, q2⟩ := aft_opt q1
  cases hx : (der r1 x).bind asI with
  | none => rw [hx] at hk; cases hk
  | some i =>
    rw [hx] at hk
    cases hk
    obtain ⟨d, hd, hb⟩ := bind_some2 hx
    exact ⟨i, rpI_int ((R1.holds S E1).der E1.sim hd) hb, q2 H1 E1⟩
theorem se_slice {f : D → Option Int → Option Int → Option R} (hf : SlR X (rDSl X.K f)) (he : PE X e (tE (gX X T W Z) da)) (hl : PO X lo (tO (gX X T W Z) dl)) (hh : PO X hi (tO (gX X T W Z) dh)) : PE X (.Subscript e (.Slice lo hi none p2) pos) (tE (gX X T W Z) (dSl f da dl dh)) := by
  refine PE.imp (pe_slice hf he hl hh) fun σ H Q h => ?_
  obtain ⟨r, S, q⟩ := h
  refine ⟨r, S, aft_mono (aft_bind q) (fun x r1 q1 v H1 E1 R1 => ?_) fun _ _ z => z⟩
  refine ⟨r1, E1.sim, aft_mono (aft_bind q1) (fun l r2 q2 H2 E2 => ?_) fun _ _ z => exW.then S E1 z⟩
  have E12 := E1.trans S E2
  refine ⟨r2, E2.sim, aft_mono (aft_bind q2) (fun h r3 q3 H3 E3 => ?_) fun _ _ z => exW.then S E12 z⟩
  have E123 := E12.trans S E3
  obtain ⟨z, hz, q4⟩ := aft_opt q3
  obtain ⟨d, hd, hz⟩ := bind_some2 hz
  refine ⟨MuZ Z r3 σ, d, z, E3.sim.min, (((R1.holds S E1).kept E1.sim E2).kept E2.sim E3).der E3.sim hd, hz, fun zv H' ex nw => ?_⟩
  obtain ⟨a1, a2⟩ := NewR.res S E123 ex nw
  exact q4 zv H' a1 a2
end

/-- a def's promise: what the mirror F gives -/
def spF (K : PySem.W.Frag) (T : List (Addr × Str)) (mg : Str → Option Value) (F : Fn) (np : Nat) : Sp := fun vs H Q E => ∃ Z as, SimZ K T Z as (vs.map some) H ∧ vs.length = np ∧
  (F as).aft (fun x as' => ∀ v H', EvE K T Z as (vs.map some) H as' H' → ResR K T Z (vs.map some) H as' H' x v → Q v H') fun e as' => ∀ c dd H', EvE K T Z as (vs.map some) H as' H' → ExR mg e c dd H' → E c dd H'
end SE
set_option Elab.async false
set_option linter.all false
set_option maxRecDepth 100000
set_option maxHeartbeats 1000000
namespace SE
open PySem L2
theorem HoldsL.len {K : PySem.W.Frag} {Z : Addr → Prop} {r : Env} {σ : L2.St} {H : Hp} : ∀ {xs : List R} {vs : List V}, HoldsL K Z r σ H xs vs → xs.length = vs.length
  | [], vs, h => by cases (show vs = [] from h); rfl
  | x :: xs, vs, ⟨v, ws, e, a, b⟩ => by rw [e, List.length_cons, List.length_cons, HoldsL.len b]
theorem HoldsL.get {K : PySem.W.Frag} {Z : Addr → Prop} {r : Env} {σ : L2.St} {H : Hp} : ∀ {xs : List R} {vs : List V} {j : Nat} {x : R}, HoldsL K Z r σ H xs vs → xs[j]? = some x → ∃ v, vs[j]? = some v ∧ Holds K Z r σ H x v
  | [], vs, j, x, h, e => by simp at e
  | y :: xs, vs, 0, x, ⟨v, ws, e, a, b⟩, h => by
    simp at h
    subst h e
    exact ⟨v, rfl, a⟩
  | y :: xs, vs, j + 1, x, ⟨v, ws, e, a, b⟩, h => by
    subst e
    obtain ⟨w, h1, h2⟩ := HoldsL.get (j := j) b (by simpa using h)
    exact ⟨w, by simpa using h1, h2⟩
theorem argsOf_get {r : Env} : ∀ {xs : List R} {as : List Sl} {j : Nat} {s : Sl}, argsOf r xs = some as → as[j]? = some s → ∃ x, xs[j]? = some x ∧ argOf r x = some s
  | [], as, j, s, h, e => by cases h; simp at e
  | x :: xs, as, j, s, h, e => by
    unfold argsOf at h
    obtain ⟨a, ha, h⟩ := bind_some2 h
    obtain ⟨bs, hb, h⟩ := bind_some2 h
    cases h
    cases j with
    | zero => simp at e; subst e; exact ⟨x, rfl, ha⟩
    | succ j =>
      obtain ⟨y, h1, h2⟩ := argsOf_get (j := j) hb (by simpa using e)
      exact ⟨y, by simpa using h1, h2⟩
theorem argsOf_get' {r : Env} : ∀ {xs : List R} {as : List Sl} {j : Nat} {x : R}, argsOf r xs = some as → xs[j]? = some x → ∃ s, as[j]? = some s ∧ argOf r x = some s
  | [], as, j, s, h, e => by simp at e
  | x :: xs, as, j, y, h, e => by
    unfold argsOf at h
    obtain ⟨a, ha, h⟩ := bind_some2 h
    obtain ⟨bs, hb, h⟩ := bind_some2 h
    cases h
    cases j with
    | zero => simp at e; subst e; exact ⟨a, rfl, ha⟩
    | succ j =>
      obtain ⟨y, h1, h2⟩ := argsOf_get' (j := j) hb (by simpa using e)
      exact ⟨y, by simpa using h1, h2⟩
theorem argsOf_len {r : Env} : ∀ {xs : List R} {as : List Sl}, argsOf r xs = some as → as.length = xs.length
  | [], as, h => by cases h; rfl
  | x :: xs, as, h => by
    unfold argsOf at h
    obtain ⟨a, ha, h⟩ := bind_some2 h
    obtain ⟨bs, hb, h⟩ := bind_some2 h
    cases h
    rw [List.length_cons, List.length_cons, argsOf_len hb]
def OwnS (r : Env) (i : Nat) : Prop := ∃ p l d, r[i]? = some (.ow p l d)
theorem sls_mem {r : Env} : ∀ {xs : List R} {j i : Nat}, xs[j]? = some (.sl i) → OwnS r i → i ∈ slsOf r xs
  | [], j, i, h, _ => by simp at h
  | x :: xs, 0, i, h, ⟨p, l, d, e⟩ => by
    simp at h
    subst h
    simp only [slsOf, e]
    exact List.mem_cons_self
  | x :: xs, j + 1, i, h, o => by
    have ih := sls_mem (xs := xs) (j := j) (i := i) (by simpa using h) o
    cases x with
    | va d => exact ih
    | nw d => exact ih
    | sl k =>
      simp only [slsOf]
      split
      · exact List.mem_cons_of_mem _ ih
      · exact ih
def Uniq (r : Env) (xs : List R) : Prop := ∀ (j j' i : Nat), xs[j]? = some (.sl i) → xs[j']? = some (.sl i) → OwnS r i → j = j'
theorem sls_uniq {r : Env} : ∀ {xs : List R}, (slsOf r xs).Nodup → Uniq r xs
  | [], _, j, j', i, h, _, _ => by simp at h
  | x :: xs, hn, j, j', i, h, h', o => by
    have tl : (slsOf r xs).Nodup := by
      cases x with
      | va d => exact hn
      | nw d => exact hn
      | sl k =>
        simp only [slsOf] at hn
        split at hn
        · exact (List.nodup_cons.mp hn).2
        · exact hn
    have hd : x = .sl i → i ∉ slsOf r xs := fun e => by
      subst e
      obtain ⟨p, l, d, e⟩ := o
      simp only [slsOf, e] at hn
      exact (List.nodup_cons.mp hn).1
    cases j with
    | zero =>
      cases j' with
      | zero => rfl
      | succ j' =>
        simp at h
        exact absurd (sls_mem (xs := xs) (j := j') (by simpa using h') o) (hd h)
    | succ j =>
      cases j' with
      | zero =>
        simp at h'
        exact absurd (sls_mem (xs := xs) (j := j) (by simpa using h) o) (hd h')
      | succ j' =>
        have := sls_uniq tl j j' i (by simpa using h) (by simpa using h') o
        omega
section
variable {K : PySem.W.Frag} {T : List (Addr × Str)} {Z : Addr → Prop} {r : Env} {σ : L2.St} {H : Hp} {xs : List R} {vs : List V} {as : List Sl}
theorem argOf_ow {x : R} {p l : Bool} {d : D} (h : argOf r x = some (.ow p l d)) : ∃ (i : Nat) (q : Bool), x = .sl i ∧ p = false ∧ r[i]? = some (.ow q l d) := by
  cases x with
  | va d' => cases h
  | nw d' => cases h
  | sl i =>
    unfold argOf at h
    dsimp only at h
    split at h
    · rename_i q l' d' e
      cases h
      exact ⟨i, q, rfl, rfl, e⟩
    · cases h
    · cases h
theorem argOf_va {x : R} {p : Bool} {d : D} (h : argOf r x = some (.va p d)) : esc r x = some (d, r) := by
  cases x with
  | va d' => cases h; rfl
  | nw d' => cases h; rfl
  | sl i =>
    unfold argOf at h
    dsimp only at h
    split at h
    · cases h
    · rename_i q d' e
      cases h
      simp only [esc, e]
    · cases h
/-- who else's objects there are, for a callee -/
def ZC (Z : Addr → Prop) (r : Env) (σ : L2.St) (as : List Sl) (vs : List V) : Addr → Prop := fun b => MuZ Z r σ b ∧ ¬ Mu as (vs.map some) b
theorem args_mu (S : SimZ K T Z r σ H) (h : HoldsL K Z r σ H xs vs) (e : argsOf r xs = some as) {b : Addr} (m : Mu as (vs.map some) b) : ∃ (j i : Nat) (q l : Bool) (d : D), xs[j]? = some (.sl i) ∧ as[j]? = some (.ow false l d) ∧ r[i]? = some (.ow q l d) ∧ σ[i]? = some (some (.ref b)) := by
  obtain ⟨j, p, l, d, h1, h2⟩ := m
  obtain ⟨x, hx, ha⟩ := argsOf_get e h1
  obtain ⟨i, q, ex, ep, hr⟩ := argOf_ow ha
  subst ex ep
  obtain ⟨v, hv, hh⟩ := h.get hx
  rw [List.getElem?_map, hv] at h2
  have ev : v = .ref b := by simpa using h2
  refine ⟨j, i, q, l, d, hx, h1, hr, ?_⟩
  rw [← ev]
  exact hh.1
theorem args_sim (S : SimZ K T Z r σ H) (h : HoldsL K Z r σ H xs vs) (e : argsOf r xs = some as) (hn : Uniq r xs) : SimZ K T (ZC Z r σ as vs) as (vs.map some) H := by
  have less : ∀ b, MuZ (ZC Z r σ as vs) as (vs.map some) b → MuZ Z r σ b := fun b z => by
    rcases z with z | z
    · obtain ⟨j, i, q, l, d, _, _, h3, h4⟩ := args_mu S h e z
      exact .inl ⟨i, q, l, d, h3, h4⟩
    · exact z.1
  have k : Kept (MuZ Z r σ) (MuZ (ZC Z r σ as vs) as (vs.map some)) H H := Kept.less less
  refine ⟨?_, fun j p d hj => ?_, fun j p l d hj => ?_, fun j j' p q l m d d' a h1 h2 h3 h4 => ?_, fun b z => z.2, fun b z => ?_, S.tabs⟩
  · rw [argsOf_len e, List.length_map, h.len]
  · obtain ⟨x, hx, ha⟩ := argsOf_get e hj
    obtain ⟨v, hv, hh⟩ := h.get hx
    refine ⟨v, by rw [List.getElem?_map, hv]; rfl, Rp.kept k _ _ (esc_ok S hh (argOf_va ha)).2⟩
  · obtain ⟨x, hx, ha⟩ := argsOf_get e hj
    obtain ⟨v, hv, hh⟩ := h.get hx
    obtain ⟨i, q, ex, ep, hr⟩ := argOf_ow ha
    subst ex ep
    obtain ⟨a, h1, h2⟩ := S.ow i q l d hr
    have h3 := hh.1
    rw [h1] at h3
    cases h3
    exact ⟨a, by rw [List.getElem?_map, hv]; rfl, h2.kept k fun _ z => z⟩
  · obtain ⟨x, hx, ha⟩ := argsOf_get e h1
    obtain ⟨v, hv, hh⟩ := h.get hx
    obtain ⟨i, q1, ex, ep, hr⟩ := argOf_ow ha
    obtain ⟨x', hx', ha'⟩ := argsOf_get e h2
    obtain ⟨v', hv', hh'⟩ := h.get hx'
    obtain ⟨i', q2, ex', ep', hr'⟩ := argOf_ow ha'
    subst ex ex'
    rw [List.getElem?_map, hv] at h3
    rw [List.getElem?_map, hv'] at h4
    have e3 : v = .ref a := by simpa using h3
    have e4 : v' = .ref a := by simpa using h4
    subst e3 e4
    have ei := S.inj i i' _ _ _ _ _ _ a hr hr' hh.1 hh'.1
    subst ei
    exact hn j j' i hx hx' ⟨_, _, _, hr⟩
  · rcases z.1 with z | z
    · obtain ⟨o, ho⟩ := S.mem z
      exact ⟨fun q => (by rw [ho] at q; cases q), S.notbl z⟩
    · exact S.zin b z
end
theorem wb1_len (r : Env) (x : R) (a : Sl) : (wb1 r x a).length = r.length := by
  unfold wb1
  split
  · split
    · rw [List.length_set]
    · rfl
  · split
    · rw [List.length_set]
    · rfl
  · rfl
theorem wb_len : ∀ (xs : List R) (as : List Sl) (r : Env), (wb r xs as).length = r.length
  | [], as, r => by cases as <;> rfl
  | x :: xs, [], r => rfl
  | x :: xs, a :: as, r => by
    unfold wb
    rw [wb_len xs as, wb1_len]
/-- the slot s after the argument came back as a -/
def back1 (s a : Sl) : Sl := match s, a with
  | .ow p l _, .ow _ _ d => .ow p l d
  | .ow p _ _, .va _ d => .va p d
  | s, _ => s
theorem wb1_at {r : Env} {i : Nat} {a s : Sl} (h : r[i]? = some s) : (wb1 r (.sl i) a)[i]? = some (back1 s a) := by
  have hi : i < r.length := (List.getElem?_eq_some_iff.mp h).1
  cases a with
  | un => cases s <;> exact h
  | va p d =>
    cases s with
    | ow q l e => simp only [wb1, h, back1]; exact List.getElem?_set_self hi
    | un => simp only [wb1, h, back1]
    | va q e => simp only [wb1, h, back1]
  | ow p l d =>
    cases s with
    | ow q l e => simp only [wb1, h, back1]; exact List.getElem?_set_self hi
    | un => simp only [wb1, h, back1]
    | va q e => simp only [wb1, h, back1]
theorem wb1_ne {r : Env} {x : R} {i : Nat} {a : Sl} (h : x ≠ .sl i) : (wb1 r x a)[i]? = r[i]? := by
  cases x with
  | va d => cases a <;> rfl
  | nw d => cases a <;> rfl
  | sl k =>
    have hk : k ≠ i := fun z => h (by rw [z])
    cases a with
    | un => rfl
    | va p d =>
      simp only [wb1]
      split
      · exact List.getElem?_set_ne hk
      · rfl
    | ow p l d =>
      simp only [wb1]
      split
      · exact List.getElem?_set_ne hk
      · rfl
theorem wb1_own {r : Env} {x : R} {a : Sl} {i : Nat} (h : OwnS (wb1 r x a) i) : OwnS r i := by
  by_cases e : x = .sl i
  · subst e
    obtain ⟨p, l, d, h⟩ := h
    cases q : r[i]? with
    | none =>
      have hl : i < (wb1 r (.sl i) a).length := (List.getElem?_eq_some_iff.mp h).1
      rw [wb1_len] at hl
      rw [List.getElem?_eq_getElem hl] at q
      cases q
    | some s =>
      rw [wb1_at q] at h
      cases s with
      | un => cases h
      | va _ _ => cases h
      | ow p' l' d' => exact ⟨p', l', d', q⟩
  · obtain ⟨p, l, d, h⟩ := h
    rw [wb1_ne e] at h
    exact ⟨p, l, d, h⟩
theorem wb_ne : ∀ {xs : List R} {as : List Sl} {r : Env} {i : Nat}, (∀ j : Nat, xs[j]? ≠ some (.sl i)) → (wb r xs as)[i]? = r[i]?
  | [], as, r, i, _ => by cases as <;> rfl
  | x :: xs, [], r, i, _ => rfl
  | x :: xs, a :: as, r, i, h => by
    unfold wb
    rw [wb_ne (fun j => by have := h (j + 1); simpa using this)]
    exact wb1_ne fun z => h 0 (by simp [z])
theorem wb_not : ∀ {xs : List R} {as : List Sl} {r : Env} {i : Nat} {s : Sl}, r[i]? = some s → (∀ p l d, s ≠ .ow p l d) → (wb r xs as)[i]? = some s
  | [], as, r, i, s, h, _ => by cases as <;> exact h
  | x :: xs, [], r, i, s, h, _ => h
  | x :: xs, a :: as, r, i, s, h, n => by
    unfold wb
    refine wb_not ?_ n
    by_cases e : x = .sl i
    · subst e
      rw [wb1_at h]
      cases s with
      | un => rfl
      | va p d => rfl
      | ow p l d => exact absurd rfl (n p l d)
    · rw [wb1_ne e]
      exact h
theorem wb_at : ∀ {xs : List R} {as : List Sl} {r : Env} {i j : Nat} {s a : Sl}, Uniq r xs → OwnS r i → r[i]? = some s → xs[j]? = some (.sl i) → as[j]? = some a → (wb r xs as)[i]? = some (back1 s a)
  | [], as, r, i, j, s, a, _, _, _, h, _ => by simp at h
  | x :: xs, [], r, i, j, s, a, _, _, _, _, h => by simp at h
  | x :: xs, b :: as, r, i, j, s, a, u, o, h, hx, ha => by
    unfold wb
    have u' : Uniq (wb1 r x b) xs := fun j j' i h h' o => by
      have := u (j + 1) (j' + 1) i (by simpa using h) (by simpa using h') (wb1_own o)
      omega
    cases j with
    | zero =>
      simp at hx ha
      subst hx ha
      rw [wb_ne (fun j z => by have := u 0 (j + 1) i (by simp) (by simpa using z) o; omega), wb1_at h]
    | succ j =>
      have ne : x ≠ .sl i := fun z => by
        have := u 0 (j + 1) i (by simp [z]) hx o
        omega
      have h' : (wb1 r x b)[i]? = some s := by rw [wb1_ne ne]; exact h
      have o' : OwnS (wb1 r x b) i := by
        obtain ⟨p, l, d, e⟩ := o
        rw [h] at e
        cases e
        exact ⟨p, l, d, h'⟩
      exact wb_at u' o' h' (by simpa using hx) (by simpa using ha)
section
variable {K : PySem.W.Frag} {T : List (Addr × Str)} {Z Zd Ze : Addr → Prop} {r : Env} {σ : L2.St} {H H' : Hp} {xs : List R} {vs : List V} {as as' : List Sl}
/-- the caller's frame behind a call -/
theorem call_sim (S : SimZ K T Z r σ H) (h : HoldsL K Z r σ H xs vs) (e : argsOf r xs = some as) (hn : Uniq r xs) (E : EvE K T (ZC Z r σ as vs) as (vs.map some) H as' H') (Sd : SimZ K T Zd as' (vs.map some) H')
    (h1 : ∀ b, Ze b → Zd b) (h2 : ∀ b, ZC Z r σ as vs b → Zd b) (h3 : ∀ b, Ze b → Z b ∨ H b = none) :
    SimZ K T Ze (wb r xs as') σ H' ∧ (∀ b, MuZ Ze (wb r xs as') σ b → MuZ Zd as' (vs.map some) b) ∧ (∀ (i : Nat) (s : Sl), r[i]? = some s → ∃ s', (wb r xs as')[i]? = some s' ∧ SlE s s') := by
  have S0 := args_sim S h e hn
  have muR : ∀ b, Mu as (vs.map some) b → Mu r σ b := fun b z => by
    obtain ⟨j, i, q, l, d, _, _, h3, h4⟩ := args_mu S h e z
    exact ⟨i, q, l, d, h3, h4⟩
  -- a slot: handed over, or as it was
  have slot : ∀ (i : Nat) (s : Sl), r[i]? = some s → ((wb r xs as')[i]? = some s ∧ ∀ p l d a, s = .ow p l d → σ[i]? = some (some (.ref a)) → ¬ Mu as (vs.map some) a) ∨
      ∃ (j : Nat) (p l : Bool) (d : D) (s' : Sl), s = .ow p l d ∧ xs[j]? = some (.sl i) ∧ as[j]? = some (.ow false l d) ∧ as'[j]? = some s' ∧ SlE (.ow false l d) s' ∧ (wb r xs as')[i]? = some (back1 s s') := fun i s hs => by
    cases s with
    | un => exact .inl ⟨wb_not hs (fun p l d z => by cases z), fun p l d a z => by cases z⟩
    | va p d => exact .inl ⟨wb_not hs (fun p l d z => by cases z), fun p l d a z => by cases z⟩
    | ow p l d =>
      by_cases hx : ∃ j : Nat, xs[j]? = some (.sl i)
      · obtain ⟨j, hx⟩ := hx
        obtain ⟨s1, ha, ho⟩ := argsOf_get' e hx
        have e1 : s1 = .ow false l d := by
          simp only [argOf, hs] at ho
          exact (Option.some.inj ho).symm
        subst e1
        obtain ⟨s2, ha', hE⟩ := E.slot j _ ha
        exact .inr ⟨j, p, l, d, s2, rfl, hx, ha, ha', hE, wb_at hn ⟨p, l, d, hs⟩ hs hx ha'⟩
      · refine .inl ⟨by rw [wb_ne fun j z => hx ⟨j, z⟩]; exact hs, fun p' l' d' a e1 ha m => ?_⟩
        obtain ⟨j, i', q, l2, d2, h4, _, h6, h7⟩ := args_mu S h e m
        have ei := S.inj i i' _ _ _ _ _ _ a hs h6 ha h7
        subst ei
        exact hx ⟨j, h4⟩
  have own : ∀ (i : Nat) (p l : Bool) (d : D), (wb r xs as')[i]? = some (.ow p l d) → (r[i]? = some (.ow p l d) ∧ ∀ a, σ[i]? = some (some (.ref a)) → ¬ Mu as (vs.map some) a) ∨
      ∃ (j : Nat) (d0 : D) (v : V), r[i]? = some (.ow p l d0) ∧ as'[j]? = some (.ow false l d) ∧ vs[j]? = some v ∧ σ[i]? = some (some v) := fun i p l d hs => by
    have hi : i < r.length := by rw [← wb_len xs as' r]; exact (List.getElem?_eq_some_iff.mp hs).1
    rcases slot i r[i] (List.getElem?_eq_getElem hi) with ⟨q1, q2⟩ | ⟨j, p0, l0, d0, s', q1, q2, q3, q4, q5, q6⟩
    · rw [hs] at q1
      have q1 := Option.some.inj q1
      exact .inl ⟨by rw [List.getElem?_eq_getElem hi, ← q1], fun a ha => q2 p l d a q1.symm ha⟩
    · rw [hs, q1] at q6
      rcases q5 with ⟨d', e1, _⟩ | ⟨_, d', e1⟩
      · subst e1
        simp only [back1] at q6
        cases q6
        obtain ⟨v, hv, hh⟩ := h.get q2
        exact .inr ⟨j, d0, v, by rw [List.getElem?_eq_getElem hi, q1], q4, hv, hh.1⟩
      · subst e1
        simp only [back1] at q6
        cases q6
  have mu : ∀ b, Mu (wb r xs as') σ b → Mu r σ b := by
    rintro b ⟨i, p, l, d, m1, m2⟩
    rcases own i p l d m1 with ⟨q, _⟩ | ⟨j, d0, v, q, _, _, _⟩
    · exact ⟨i, p, l, d, q, m2⟩
    · exact ⟨i, p, l, d0, q, m2⟩
  have sub : ∀ b, MuZ Ze (wb r xs as') σ b → MuZ Zd as' (vs.map some) b := by
    rintro b (⟨i, p, l, d, m1, m2⟩ | z)
    · rcases own i p l d m1 with ⟨q, n⟩ | ⟨j, d0, v, q, q2, q3, q4⟩
      · exact .inr (h2 b ⟨.inl ⟨i, p, l, d, q, m2⟩, n b m2⟩)
      · rw [m2] at q4
        have ev : V.ref b = v := by simpa using q4
        refine .inl ⟨j, false, l, d, q2, ?_⟩
        rw [List.getElem?_map, q3, ← ev]
        rfl
    · exact .inr (h1 b z)
  have less : Kept (MuZ Zd as' (vs.map some)) (MuZ Ze (wb r xs as') σ) H' H' := Kept.less sub
  have k : Kept (MuZ Z r σ) (MuZ Ze (wb r xs as') σ) H H' := ⟨fun a o hh t n => E.ob a o hh t fun z => n (.inl (muR a z)), fun a z => z.elim (fun z => .inl (.inl (mu a z))) fun z => (h3 a z).elim (fun z => .inl (.inr z)) .inr⟩
  refine ⟨⟨by rw [wb_len]; exact S.len, fun i p d hi => ?_, fun i p l d hi => ?_, fun i i' p q l m d d' a m1 m2 m3 m4 => ?_, fun b z m => ?_, fun b z => Sd.zin b (h1 b z), Sd.tabs⟩, sub, fun i s hs => ?_⟩
  · have hl : i < r.length := by rw [← wb_len xs as' r]; exact (List.getElem?_eq_some_iff.mp hi).1
    rcases slot i r[i] (List.getElem?_eq_getElem hl) with ⟨q1, _⟩ | ⟨j, p0, l0, d0, s', q1, q2, q3, q4, q5, q6⟩
    · rw [hi] at q1
      have q1 := Option.some.inj q1
      obtain ⟨v, a1, a2⟩ := S.va i p d (by rw [List.getElem?_eq_getElem hl, ← q1])
      exact ⟨v, a1, Rp.kept k d v a2⟩
    · rw [hi, q1] at q6
      rcases q5 with ⟨d', e1, _⟩ | ⟨_, d', e1⟩
      · subst e1
        simp only [back1] at q6
        cases q6
      · subst e1
        simp only [back1] at q6
        cases q6
        obtain ⟨v, hv, hh⟩ := h.get q2
        obtain ⟨w, a1, a2⟩ := Sd.va j false _ q4
        rw [List.getElem?_map, hv] at a1
        have ew : v = w := by simpa using a1
        subst ew
        exact ⟨v, hh.1, Rp.kept less _ _ a2⟩
  · rcases own i p l d hi with ⟨q, n⟩ | ⟨j, d0, v, q, q2, q3, q4⟩
    · obtain ⟨a, a1, a2⟩ := S.ow i p l d q
      refine ⟨a, a1, a2.kept k fun o ho => E.ob a o ho (fun ps z => ?_) (n a a1)⟩
      rw [z] at ho
      exact a2.noTbl ps ho
    · obtain ⟨a, a1, a2⟩ := Sd.ow j false l d q2
      rw [List.getElem?_map, q3] at a1
      have ev : v = .ref a := by simpa using a1
      subst ev
      exact ⟨a, q4, a2.kept less fun _ z => z⟩
  · have o1 : ∃ d1, r[i]? = some (.ow p l d1) := by
      rcases own i p l d m1 with ⟨z, _⟩ | ⟨_, d0, _, z, _⟩
      · exact ⟨_, z⟩
      · exact ⟨_, z⟩
    have o2 : ∃ d1, r[i']? = some (.ow q m d1) := by
      rcases own i' q m d' m2 with ⟨z, _⟩ | ⟨_, d0, _, z, _⟩
      · exact ⟨_, z⟩
      · exact ⟨_, z⟩
    obtain ⟨d1, o1⟩ := o1
    obtain ⟨d2, o2⟩ := o2
    exact S.inj i i' _ _ _ _ _ _ a o1 o2 m3 m4
  · rcases h3 b z with z | z
    · exact S.apart b z (mu b m)
    · obtain ⟨o, ho⟩ := S.mem (mu b m)
      rw [z] at ho
      cases ho
  · rcases slot i s hs with ⟨q1, _⟩ | ⟨j, p0, l0, d0, s', q1, q2, q3, q4, q5, q6⟩
    · exact ⟨s, q1, SlE.refl s⟩
    · refine ⟨_, q6, ?_⟩
      subst q1
      rcases q5 with ⟨d', e1, f⟩ | ⟨f, d', e1⟩
      · subst e1
        exact .inl ⟨d', rfl, f⟩
      · subst e1
        exact .inr ⟨f, d', rfl⟩
end
section
variable {X : Cx} {T : List (Addr × Str)} {W : WX} {Z : Addr → Prop}
/-- from the caller's slots to the callee's promise -/
theorem call_ok {F : Fn} {r0 r : Env} {σ : L2.St} {H0 H : Hp} {xs : List R} {vs : List V} {Q : VK} (S0 : SimZ X.K T Z r0 σ H0) (E0 : EvE X.K T Z r0 σ H0 r H) (h : HoldsL X.K Z r σ H xs vs)
    (q : (callF F xs r).aft (fun x r' => ∀ v H', EvE X.K T Z r0 σ H0 r' H' → ResR X.K T Z σ H0 r' H' x v → Q v H') (exW (gX X T W Z) r0 σ H0)) : spF X.K T X.mg F vs.length vs H Q (WE W σ) := by
  have S := E0.sim
  unfold callF at q
  cases e : argsOf r xs with
  | none => rw [e] at q; exact q.elim
  | some as =>
    rw [e] at q
    dsimp only at q
    by_cases hn : (slsOf r xs).Nodup
    · rw [if_pos hn] at q
      have u := sls_uniq hn
      refine ⟨ZC Z r σ as vs, as, args_sim S h e u, rfl, ?_⟩
      have evo : ∀ {as' H'}, EvE X.K T (ZC Z r σ as vs) as (vs.map some) H as' H' → EvE X.K T Z r0 σ H0 (wb r xs as') H' := fun {as' H'} E => by
        obtain ⟨a1, a2, a3⟩ := call_sim (Zd := ZC Z r σ as vs) (Ze := Z) S h e u E E.sim (fun b z => ⟨.inr z, fun m => by
          obtain ⟨j, i, q, l, d, _, _, h3, h4⟩ := args_mu S h e m
          exact S.apart b z ⟨i, q, l, d, h3, h4⟩⟩) (fun _ z => z) fun _ z => .inl z
        refine E0.trans S0 ⟨a1, fun a o hh t n => E.ob a o hh t fun z => ?_, E.dom, a3⟩
        obtain ⟨j, i, q, l, d, _, _, h3, h4⟩ := args_mu S h e z
        exact n ⟨i, q, l, d, h3, h4⟩
      cases hF : F as with
      | bad => rw [hF] at q; exact q.elim
      | ex ee as' =>
        rw [hF] at q
        intro c dd H' E x
        exact q c dd H' (evo E) x
      | ok x as' =>
        rw [hF] at q
        cases x with
        | va d =>
          intro v H' E R
          refine q v H' (evo E) (ResR.back S0 E0 ?_)
          obtain ⟨a1, a2, a3⟩ := call_sim (Zd := ZC Z r σ as vs) (Ze := Z) S h e u E E.sim (fun b z => ⟨.inr z, fun m => by
            obtain ⟨j, i, q, l, d, _, _, h3, h4⟩ := args_mu S h e m
            exact S.apart b z ⟨i, q, l, d, h3, h4⟩⟩) (fun _ z => z) fun _ z => .inl z
          exact Rp.kept (Kept.less a2) d v R
        | nw d =>
          intro v H' E R
          refine q v H' (evo E) (ResR.back S0 E0 ?_)
          obtain ⟨a, ev, na, Sd, o⟩ := R
          obtain ⟨a1, a2, a3⟩ := call_sim (Zd := fun b => ZC Z r σ as vs b ∨ b = a) (Ze := fun b => Z b ∨ b = a) S h e u E Sd (fun b z => z.elim (fun z => .inl ⟨.inr z, fun m => by
            obtain ⟨j, i, q, l, d, _, _, h3, h4⟩ := args_mu S h e m
            exact S.apart b z ⟨i, q, l, d, h3, h4⟩⟩) .inr) (fun _ z => .inl z) fun b z => z.elim .inl fun z => .inr (by rw [z]; exact na)
          exact ⟨a, ev, na, a1, o.kept (Kept.less a2) fun _ z => z⟩
        | sl i => exact q.elim
    · rw [if_neg hn] at q; exact q.elim
end
end SE
set_option Elab.async false
set_option linter.all false
set_option maxRecDepth 100000
set_option maxHeartbeats 1000000
namespace SE
open PySem L2
def MuP (p : Bool) (r : Env) (σ : L2.St) (a : Addr) : Prop := ∃ (i : Nat) (l : Bool) (d : D), r[i]? = some (.ow p l d) ∧ σ[i]? = some (some (.ref a))
theorem MuP.mu {p : Bool} {r : Env} {σ : L2.St} {a : Addr} (h : MuP p r σ a) : Mu r σ a := by
  obtain ⟨i, l, d, h1, h2⟩ := h
  exact ⟨i, p, l, d, h1, h2⟩
theorem Mu.p {r : Env} {σ : L2.St} {a : Addr} (h : Mu r σ a) : ∃ p, MuP p r σ a := by
  obtain ⟨i, p, l, d, h1, h2⟩ := h
  exact ⟨p, i, l, d, h1, h2⟩
/-- behind a statement -/
structure EvS (K : PySem.W.Frag) (T : List (Addr × Str)) (Z : Addr → Prop) (r : Env) (σ : L2.St) (H : Hp) (r' : Env) (σ' : L2.St) (H' : Hp) : Prop where
  sim : SimZ K T Z r' σ' H'
  ob : ∀ a o, H a = some o → (∀ ps, o ≠ .tbl ps) → ¬ Mu r σ a → H' a = some o
  dom : ∀ a, H' a = none → H a = none
  mu : ∀ p a, MuP p r' σ' a → MuP p r σ a ∨ (p = false ∧ H a = none)
  slot : ∀ (i : Nat) (s : Sl), r[i]? = some s → ∃ s', r'[i]? = some s' ∧ SlS s s' ∧ (stays s = true → σ'[i]? = σ[i]?)
theorem SlE.s {a b : Sl} (h : SlE a b) : SlS a b := by
  cases a with
  | un => exact True.intro
  | va p d =>
    cases p with
    | true => exact h
    | false => exact True.intro
  | ow p l d =>
    cases p with
    | true => exact h
    | false =>
      cases l with
      | false => exact True.intro
      | true =>
        rcases h with ⟨d', e, f⟩ | ⟨e, _⟩
        · rw [e, f rfl]; exact rfl
        · cases e
theorem SlS.trans {a b c : Sl} (h : SlS a b) (k : SlS b c) : SlS a c := by
  cases a with
  | un => exact True.intro
  | va p d =>
    cases p with
    | true => cases (show b = .va true d from h); exact k
    | false => exact True.intro
  | ow p l d =>
    cases p with
    | true =>
      rcases h with ⟨d', e, f⟩ | ⟨e0, d', e⟩
      · subst e
        rcases k with ⟨d2, e2, f2⟩ | ⟨e0, d2, e2⟩
        · exact .inl ⟨d2, e2, fun z => (f2 z).trans (f z)⟩
        · exact .inr ⟨e0, d2, e2⟩
      · subst e
        exact .inr ⟨e0, d', k⟩
    | false =>
      cases l with
      | false => exact True.intro
      | true => cases (show b = .ow false true d from h); exact k
theorem SlS.stays {a b : Sl} (h : SlS a b) (s : stays a = true) : SE.stays b = true := by
  cases a with
  | un => cases s
  | va p d =>
    cases p with
    | true => cases (show b = .va true d from h); rfl
    | false => cases s
  | ow p l d =>
    cases p with
    | true =>
      rcases h with ⟨d', e, f⟩ | ⟨e0, d', e⟩
      · subst e; rfl
      · subst e; rfl
    | false =>
      cases l with
      | false => cases s
      | true => cases (show b = .ow false true d from h); rfl
section
variable {K : PySem.W.Frag} {T : List (Addr × Str)} {Z : Addr → Prop} {r r1 r2 : Env} {σ σ1 σ2 : L2.St} {H H1 H2 : Hp} {x : R} {v : V} {d : D}
theorem EvE.s (S : SimZ K T Z r σ H) (E : EvE K T Z r σ H r1 H1) : EvS K T Z r σ H r1 σ H1 := by
  refine ⟨E.sim, E.ob, E.dom, fun p a m => ?_, fun i s h => ?_⟩
  · obtain ⟨i, l, d, h1, h2⟩ := m
    have hi : i < r.length := by rw [← E.len S]; exact (List.getElem?_eq_some_iff.mp h1).1
    obtain ⟨s', e1, e2⟩ := E.slot i r[i] (List.getElem?_eq_getElem hi)
    rw [h1] at e1
    cases e1
    cases hq : r[i] with
    | un => rw [hq] at e2; cases e2
    | va q e => rw [hq] at e2; cases e2
    | ow q m e =>
      rw [hq] at e2
      rcases e2 with ⟨d', e1, _⟩ | ⟨_, d', e1⟩
      · cases e1
        exact .inl ⟨i, l, e, by rw [List.getElem?_eq_getElem hi, hq], h2⟩
      · cases e1
  · obtain ⟨s', a, b⟩ := E.slot i s h
    exact ⟨s', a, b.s, fun _ => rfl⟩
theorem EvS.refl (S : SimZ K T Z r σ H) : EvS K T Z r σ H r σ H := EvE.s S (EvE.refl S)
theorem EvS.mu' (E : EvS K T Z r σ H r1 σ1 H1) {a : Addr} (h : Mu r1 σ1 a) : Mu r σ a ∨ H a = none := by
  obtain ⟨p, h⟩ := h.p
  rcases E.mu p a h with h | h
  · exact .inl h.mu
  · exact .inr h.2
theorem EvS.trans (E : EvS K T Z r σ H r1 σ1 H1) (F : EvS K T Z r1 σ1 H1 r2 σ2 H2) : EvS K T Z r σ H r2 σ2 H2 where
  sim := F.sim
  ob := fun a o h t n => F.ob a o (E.ob a o h t n) t fun z => by
    rcases E.mu' z with z | z
    · exact n z
    · rw [h] at z; cases z
  dom := fun a h => E.dom a (F.dom a h)
  mu := fun p a h => by
    rcases F.mu p a h with h | ⟨h1, h2⟩
    · exact E.mu p a h
    · exact .inr ⟨h1, E.dom a h2⟩
  slot := fun i s h => by
    obtain ⟨s1, h1, e1, f1⟩ := E.slot i s h
    obtain ⟨s2, h2, e2, f2⟩ := F.slot i s1 h1
    exact ⟨s2, h2, e1.trans e2, fun z => (f2 (e1.stays z)).trans (f1 z)⟩
theorem EvS.kept (E : EvS K T Z r σ H r1 σ1 H1) : Kept (MuZ Z r σ) (MuZ Z r1 σ1) H H1 :=
  ⟨fun a o h t n => E.ob a o h t fun z => n (.inl z), fun a z => by
    rcases z with z | z
    · rcases E.mu' z with z | z
      · exact .inl (.inl z)
      · exact .inr z
    · exact .inl (.inr z)⟩
theorem ResR.dom (E : ∀ a, H1 a = none → H a = none) (h : ResR K T Z σ H1 r2 H2 x v) : ResR K T Z σ H r2 H2 x v := by
  cases x with
  | va d => exact h
  | nw d => obtain ⟨p, e1, e2, e3⟩ := h; exact ⟨p, e1, E p e2, e3⟩
  | sl i => exact h
end
/-- what is wanted behind a statement -/
def sAft (g : G) (D : Ends) (r : Env) (σ : L2.St) (H : Hp) : SOut → Prop
  | .nx r' => ∀ σ' H', EvS g.K g.T g.Z r σ H r' σ' H' → D.nx σ' H'
  | .bk r' => ∀ σ' H', EvS g.K g.T g.Z r σ H r' σ' H' → D.bk σ' H'
  | .ct r' => ∀ σ' H', EvS g.K g.T g.Z r σ H r' σ' H' → D.ct σ' H'
  | .rt x r' => ∀ v σ' H', EvS g.K g.T g.Z r σ H r' σ' H' → ResR g.K g.T g.Z σ' H r' H' x v → D.rt v H'
  | .ex e r' => ∀ c dd σ' H', EvS g.K g.T g.Z r σ H r' σ' H' → ExR g.mg e c dd H' → g.W c dd σ' H'
  | .bad => False
def tS (g : G) (d : DS) : TS := fun D σ H => ∃ r, SimZ g.K g.T g.Z r σ H ∧ sAft g D r σ H (d r)
section
variable {g : G} {D D' : Ends} {r r1 r2 : Env} {σ σ1 σ2 : L2.St} {H H1 H2 : Hp}
theorem sAft.then {o : SOut} (E : EvS g.K g.T g.Z r σ H r1 σ1 H1) (h : sAft g D r σ H o) : sAft g D r1 σ1 H1 o := by
  cases o with
  | nx r' => exact fun σ' H' F => h σ' H' (E.trans F)
  | bk r' => exact fun σ' H' F => h σ' H' (E.trans F)
  | ct r' => exact fun σ' H' F => h σ' H' (E.trans F)
  | rt x r' => exact fun v σ' H' F R => h v σ' H' (E.trans F) (R.dom E.dom)
  | ex e r' => exact fun c dd σ' H' F R => h c dd σ' H' (E.trans F) R
  | bad => exact h
/-- an expression ahead of the rest -/
theorem sAft_st {α : Type} {x : Out α} {f : α → Env → SOut} (S : SimZ g.K g.T g.Z r σ H) (h : sAft g D r σ H (x.st f)) : x.aft (fun a r' => sAft g D r σ H (f a r')) (exW g r σ H) := by
  cases x with
  | ok a r' => exact h
  | ex e r' => exact fun c dd H' E R => h c dd σ H' (E.s S) R
  | bad => exact h
end
section
variable {K : PySem.W.Frag} {T : List (Addr × Str)} {Z : Addr → Prop} {r r' : Env} {σ : L2.St} {H : Hp} {v : V} {d : D} {i : Nat}
theorem store_cases {s : Sl} (h : store i s r = some r') : r' = r.set i s ∧ i < r.length ∧ ∃ s0, r[i]? = some s0 ∧ stays s0 = false := by
  unfold store at h
  have hi : ∀ s0, r[i]? = some s0 → i < r.length := fun s0 e => (List.getElem?_eq_some_iff.mp e).1
  split at h
  · rename_i e; cases h; exact ⟨rfl, hi _ e, _, e, rfl⟩
  · rename_i e; cases h; exact ⟨rfl, hi _ e, _, e, rfl⟩
  · rename_i e; cases h; exact ⟨rfl, hi _ e, _, e, rfl⟩
  · cases h
theorem slot_set {s s0 : Sl} (hi : i < r.length) (h0 : r[i]? = some s0) (n : stays s0 = false) : ∀ (j : Nat) (t : Sl), r[j]? = some t → ∃ s', (r.set i s)[j]? = some s' ∧ SlS t s' ∧ (stays t = true → (σ.set i (some v))[j]? = σ[j]?) := fun j t hj => by
  by_cases e : i = j
  · subst e
    rw [h0] at hj
    cases hj
    refine ⟨s, List.getElem?_set_self hi, ?_, fun z => by rw [n] at z; cases z⟩
    cases s0 with
    | un => exact True.intro
    | va p d => cases p with
      | true => cases n
      | false => exact True.intro
    | ow p l d => cases p with
      | true => cases n
      | false => cases l with
        | true => cases n
        | false => exact True.intro
  · exact ⟨t, by rw [List.getElem?_set_ne e]; exact hj, (SlE.refl t).s, fun _ => List.getElem?_set_ne e⟩
/-- a value is stored -/
theorem store_va (S : SimZ K T Z r σ H) (h : Rp K (MuZ Z r σ) H d v) (e : store i (.va false d) r = some r') : EvS K T Z r σ H r' (σ.set i (some v)) H := by
  obtain ⟨er, hi, s0, h0, n⟩ := store_cases e
  subst er
  have hs : i < σ.length := by rw [← S.len]; exact hi
  have muP : ∀ p a, MuP p (r.set i (.va false d)) (σ.set i (some v)) a → MuP p r σ a := by
    rintro p a ⟨j, l, d', h1, h2⟩
    rcases getSet h1 with ⟨_, z, _⟩ | ⟨ne, h1⟩
    · cases z
    · rw [List.getElem?_set_ne ne] at h2
      exact ⟨j, l, d', h1, h2⟩
  have mu : ∀ a, Mu (r.set i (.va false d)) (σ.set i (some v)) a → Mu r σ a := fun a m => by
    obtain ⟨p, m⟩ := m.p
    exact (muP p a m).mu
  have k : Kept (MuZ Z r σ) (MuZ Z (r.set i (.va false d)) (σ.set i (some v))) H H := Kept.less fun a z => z.elim (fun z => .inl (mu a z)) .inr
  refine ⟨⟨by rw [List.length_set, List.length_set]; exact S.len, fun j p d' hj => ?_, fun j p l d' hj => ?_, fun j j' p q l m d1 d2 a h1 h2 h3 h4 => ?_, fun a z m => S.apart a z (mu a m), S.zin, S.tabs⟩, fun _ _ h _ _ => h, fun _ h => h, fun p a m => .inl (muP p a m), slot_set hi h0 n⟩
  · rcases getSet hj with ⟨e1, e2, _⟩ | ⟨ne, hj⟩
    · cases e2
      subst e1
      exact ⟨v, List.getElem?_set_self hs, Rp.kept k d v h⟩
    · obtain ⟨w, a1, a2⟩ := S.va j p d' hj
      exact ⟨w, by rw [List.getElem?_set_ne ne]; exact a1, Rp.kept k d' w a2⟩
  · rcases getSet hj with ⟨_, e2, _⟩ | ⟨ne, hj⟩
    · cases e2
    · obtain ⟨a, a1, a2⟩ := S.ow j p l d' hj
      exact ⟨a, by rw [List.getElem?_set_ne ne]; exact a1, a2.kept k fun _ z => z⟩
  · rcases getSet h1 with ⟨_, e2, _⟩ | ⟨n1, h1⟩
    · cases e2
    · rcases getSet h2 with ⟨_, e2, _⟩ | ⟨n2, h2⟩
      · cases e2
      · rw [List.getElem?_set_ne n1] at h3
        rw [List.getElem?_set_ne n2] at h4
        exact S.inj j j' p q l m d1 d2 a h1 h2 h3 h4
/-- a new object is stored, as the slot's own -/
theorem store_ow {H0 : Hp} {a : Addr} (S : SimZ K T (fun b => Z b ∨ b = a) r σ H) (h : RpO K (MuZ (fun b => Z b ∨ b = a) r σ) H false d a) (nz : ¬ Z a) (n0 : H0 a = none)
    (e : store i (.ow false false d) r = some r') : SimZ K T Z r' (σ.set i (some (.ref a))) H ∧
      (∀ p b, MuP p r' (σ.set i (some (.ref a))) b → MuP p r σ b ∨ (p = false ∧ H0 b = none)) ∧ (∀ (j : Nat) (t : Sl), r[j]? = some t → ∃ s', r'[j]? = some s' ∧ SlS t s' ∧ (stays t = true → (σ.set i (some (.ref a)))[j]? = σ[j]?)) := by
  obtain ⟨er, hi, s0, h0, n⟩ := store_cases e
  subst er
  have hs : i < σ.length := by rw [← S.len]; exact hi
  have muP : ∀ p b, MuP p (r.set i (.ow false false d)) (σ.set i (some (.ref a))) b → MuP p r σ b ∨ (p = false ∧ b = a) := by
    rintro p b ⟨j, l, d', h1, h2⟩
    rcases getSet h1 with ⟨e1, z, _⟩ | ⟨ne, h1⟩
    · cases z
      subst e1
      rw [List.getElem?_set_self hs] at h2
      have : V.ref a = V.ref b := by simpa using h2
      cases this
      exact .inr ⟨rfl, rfl⟩
    · rw [List.getElem?_set_ne ne] at h2
      exact .inl ⟨j, l, d', h1, h2⟩
  have mu : ∀ b, Mu (r.set i (.ow false false d)) (σ.set i (some (.ref a))) b → Mu r σ b ∨ b = a := fun b m => by
    obtain ⟨p, m⟩ := m.p
    rcases muP p b m with m | ⟨_, m⟩
    · exact .inl m.mu
    · exact .inr m
  have k : Kept (MuZ (fun b => Z b ∨ b = a) r σ) (MuZ Z (r.set i (.ow false false d)) (σ.set i (some (.ref a)))) H H := Kept.less fun b z => z.elim (fun z => (mu b z).elim .inl fun z => .inr (.inr z)) fun z => .inr (.inl z)
  refine ⟨⟨by rw [List.length_set, List.length_set]; exact S.len, fun j p d' hj => ?_, fun j p l d' hj => ?_, fun j j' p q l m d1 d2 b h1 h2 h3 h4 => ?_, fun b z m => ?_, fun b z => S.zin b (.inl z), S.tabs⟩, fun p b m => ?_, slot_set hi h0 n⟩
  · rcases getSet hj with ⟨_, e2, _⟩ | ⟨ne, hj⟩
    · cases e2
    · obtain ⟨w, a1, a2⟩ := S.va j p d' hj
      exact ⟨w, by rw [List.getElem?_set_ne ne]; exact a1, Rp.kept k d' w a2⟩
  · rcases getSet hj with ⟨e1, e2, _⟩ | ⟨ne, hj⟩
    · cases e2
      subst e1
      exact ⟨a, List.getElem?_set_self hs, h.kept k fun _ z => z⟩
    · obtain ⟨b, a1, a2⟩ := S.ow j p l d' hj
      exact ⟨b, by rw [List.getElem?_set_ne ne]; exact a1, a2.kept k fun _ z => z⟩
  · have no : ∀ (j : Nat) (p l : Bool) (d1 : D), r[j]? = some (.ow p l d1) → σ[j]? = some (some (.ref a)) → False := fun j p l d1 h1 h2 => S.apart a (.inr rfl) ⟨j, p, l, d1, h1, h2⟩
    rcases getSet h1 with ⟨e1, e2, _⟩ | ⟨n1, h1⟩
    · rcases getSet h2 with ⟨e3, e4, _⟩ | ⟨n2, h2⟩
      · exact e1.symm.trans e3
      · subst e1
        rw [List.getElem?_set_self hs] at h3
        have : V.ref a = V.ref b := by simpa using h3
        cases this
        rw [List.getElem?_set_ne n2] at h4
        exact (no _ _ _ _ h2 h4).elim
    · rw [List.getElem?_set_ne n1] at h3
      rcases getSet h2 with ⟨e3, e4, _⟩ | ⟨n2, h2⟩
      · subst e3
        rw [List.getElem?_set_self hs] at h4
        have : V.ref a = V.ref b := by simpa using h4
        cases this
        exact (no _ _ _ _ h1 h3).elim
      · rw [List.getElem?_set_ne n2] at h4
        exact S.inj j j' p q l m d1 d2 b h1 h2 h3 h4
  · rcases mu b m with m | m
    · exact S.apart b (.inl z) m
    · rw [m] at z
      exact nz z
  · rcases muP p b m with m | ⟨m1, m2⟩
    · exact .inl m
    · exact .inr ⟨m1, by rw [m2]; exact n0⟩
end
/-- the frame's values but for the slots l -/
def Agree (l : List Nat) (σ σ' : L2.St) : Prop := σ'.length = σ.length ∧ ∀ j, j ∉ l → σ'[j]? = σ[j]?
mutual
def pslots : Pat → List Nat
  | .v i => [i]
  | .t ps => pslotss ps
def pslotss : List Pat → List Nat
  | [] => []
  | p :: ps => pslots p ++ pslotss ps
end
def tG (g : G) (p : Pat) : TG := fun v σ H Q => ∃ r d r', SimZ g.K g.T g.Z r σ H ∧ Rp g.K (MuZ g.Z r σ) H d v ∧ put p d r = some r' ∧ ∀ σ', EvS g.K g.T g.Z r σ H r' σ' H → Agree (pslots p) σ σ' → Q σ' H
def tGs (g : G) (ps : List Pat) : TGs := fun vs σ H Q => ∃ r ds r', SimZ g.K g.T g.Z r σ H ∧ RpL g.K (MuZ g.Z r σ) H ds vs ∧ puts ps ds r = some r' ∧ ∀ σ', EvS g.K g.T g.Z r σ H r' σ' H → Agree (pslotss ps) σ σ' → Q σ' H
theorem PG.imp {X : Cx} {e : Expr} {t t' : TG} (h : PG X e t) (k : ∀ v σ H Q, t' v σ H Q → t v σ H Q) : PG X e t' := ⟨fun p s σ H v u Q I rv q => h.run p s σ H v u Q I rv (k v σ H Q q)⟩
theorem PGs.imp {X : Cx} {e : List Expr} {t t' : TGs} (h : PGs X e t) (k : ∀ v σ H Q, t' v σ H Q → t v σ H Q) : PGs X e t' := ⟨fun p s σ H v u Q I rv q => h.run p s σ H v u Q I rv (k v σ H Q q)⟩
section
variable {X : Cx} {T : List (Addr × Str)} {W : WX} {Z : Addr → Prop} {e : Expr} {es : List Expr} {p : Pat} {ps : List Pat} {pos : Pos}
theorem sg_name {i : Nat} {x : Str} (h : PG X (.Name x pos) (gName i)) : PG X (.Name x pos) (tG (gX X T W Z) (.v i)) := by
  refine PG.imp h fun v σ H Q q => ?_
  obtain ⟨r, d, r', S, rp, hp, k⟩ := q
  unfold put at hp
  refine k _ (store_va S rp hp) ⟨List.length_set, fun j hj => List.getElem?_set_ne fun e => hj ?_⟩
  rw [e]
  simp [pslots]
theorem sgs_nil : PGs X [] (tGs (gX X T W Z) []) := by
  refine PGs.imp pgs_nil fun v σ H Q q => ?_
  obtain ⟨r, d, r', S, rp, hp, k⟩ := q
  cases d with
  | nil =>
    cases hp
    exact ⟨rp, k σ (EvS.refl S) ⟨rfl, fun _ _ => rfl⟩⟩
  | cons _ _ => cases hp
theorem assign_cons {X : Cx} {e : Expr} {es : List Expr} (h : ∀ a p, e ≠ .Starred a p) : assignEach (e :: es) X.env = (false, assign e X.env) :: assignEach es X.env := by
  cases e <;> first | rfl | exact absurd rfl (h _ _)
theorem sgs_cons (hs : ∀ a p, e ≠ .Starred a p) (h1 : PG X e (tG (gX X T W Z) p)) (h2 : PGs X es (tGs (gX X T W Z) ps)) : PGs X (e :: es) (tGs (gX X T W Z) (p :: ps)) := by
  refine PGs.imp (pgs_cons h1 h2 (by rw [assign_cons hs]; rfl)) fun vs σ H Q q => ?_
  obtain ⟨r, ds, r', S, rp, hp, k⟩ := q
  cases ds with
  | nil => cases hp
  | cons d ds =>
    obtain ⟨r1, h3, h4⟩ := bind_some2 (show (put p d r).bind (fun r1 => puts ps ds r1) = some r' from hp)
    simp only [RpL] at rp
    obtain ⟨v, ws, ev, a1, a2⟩ := rp
    exact ⟨v, ws, ev, r, d, r1, S, a1, h3, fun σ1 E1 G1 => ⟨r1, ds, r', E1.sim, RpL.kept E1.kept ds ws a2, h4, fun σ2 E2 G2 => k σ2 (E1.trans E2) ⟨G2.1.trans G1.1, fun j hj => by
      simp only [pslotss, List.mem_append, not_or] at hj
      exact (G2.2 j hj.2).trans (G1.2 j hj.1)⟩⟩⟩
theorem puts_len : ∀ {ps : List Pat} {ds : List D} {r r' : Env}, puts ps ds r = some r' → ds.length = ps.length
  | [], [], _, _, _ => rfl
  | p :: ps, d :: ds, r, r', h => by
    obtain ⟨r1, h3, h4⟩ := bind_some2 (show (put p d r).bind (fun r1 => puts ps ds r1) = some r' from h)
    rw [List.length_cons, List.length_cons, puts_len h4]
  | [], _ :: _, _, _, h => by cases h
  | _ :: _, [], _, _, h => by cases h
theorem assign_len {X : Cx} : ∀ {es : List Expr}, (∀ e ∈ es, ∀ a p, e ≠ .Starred a p) → (assignEach es X.env).length = es.length ∧ (assignEach es X.env).findIdx? (·.1) = none
  | [], _ => ⟨rfl, rfl⟩
  | e :: es, h => by
    obtain ⟨a, b⟩ := assign_len (X := X) (es := es) fun e' he => h e' (List.mem_cons_of_mem _ he)
    rw [assign_cons (h e List.mem_cons_self)]
    refine ⟨by rw [List.length_cons, List.length_cons, a], ?_⟩
    rw [List.findIdx?_cons, b]
    rfl
theorem sg_tup {k : Nat} (hc : X.calm = true) (hs : ∀ e ∈ es, ∀ a p, e ≠ .Starred a p) (hl : es.length = ps.length) (h : PGs X es (tGs (gX X T W Z) ps)) : PG X (.Tuple es k pos) (tG (gX X T W Z) (.t ps)) := by
  refine PG.imp (pg_tup hc h (assign_len hs).1 (assign_len hs).2) fun v σ H Q q => ?_
  obtain ⟨r, d, r', S, rp, hp, k⟩ := q
  cases d with
  | tuple ds =>
    simp only [Rp] at rp
    obtain ⟨a, vs, ev, l, rl⟩ := rp
    have hp' : puts ps ds r = some r' := by simpa only [put] using hp
    exact ⟨a, vs, ev, l.sq, by rw [hl, ← puts_len hp', rl.length], r, ds, r', S, rl, hp', fun σ' E G => k σ' E (by simpa only [pslots] using G)⟩
  | none => simp only [put] at hp; cases hp
  | bool b => simp only [put] at hp; cases hp
  | int i => simp only [put] at hp; cases hp
  | str s => simp only [put] at hp; cases hp
  | list ds => simp only [put] at hp; cases hp
  | dict ds => simp only [put] at hp; cases hp
end
section
variable {X : Cx} {T : List (Addr × Str)} {W : WX} {Z : Addr → Prop} {e c : Expr} {st : Stmt} {sts sa sb : List Stmt} {de : DE} {dt : DT} {ds d1 d2 : DS} {pos : Pos}
theorem ss_nil : PSs X [] (tS (gX X T W Z) sNext) := PSs.imp pss_nil fun D σ H ⟨r, S, q⟩ => q σ H (EvS.refl S)
theorem ss_cons (h1 : PS X st (tS (gX X T W Z) d1)) (h2 : PSs X sts (tS (gX X T W Z) d2)) : PSs X (st :: sts) (tS (gX X T W Z) (sSeq d1 d2)) := by
  refine PSs.imp (pss_cons h1 h2) fun D σ H q => ?_
  obtain ⟨r, S, q⟩ := q
  refine ⟨r, S, ?_⟩
  unfold sSeq at q
  cases e : d1 r with
  | nx r1 =>
    rw [e] at q
    exact fun σ1 H1 E1 => ⟨r1, E1.sim, sAft.then E1 q⟩
  | bk r1 => rw [e] at q; exact q
  | ct r1 => rw [e] at q; exact q
  | rt x r1 => rw [e] at q; exact q
  | ex x r1 => rw [e] at q; exact q
  | bad => rw [e] at q; exact q
theorem ss_pass : PS X (.Pass pos) (tS (gX X T W Z) sNext) := PS.imp ps_pass fun D σ H ⟨r, S, q⟩ => q σ H (EvS.refl S)
theorem ss_break : PS X (.Break pos) (tS (gX X T W Z) sBreak) := PS.imp ps_break fun D σ H ⟨r, S, q⟩ => q σ H (EvS.refl S)
theorem ss_cont : PS X (.Continue pos) (tS (gX X T W Z) sCont) := PS.imp ps_continue fun D σ H ⟨r, S, q⟩ => q σ H (EvS.refl S)
theorem ss_if (hc : PT X c (tT (gX X T W Z) dt)) (ha : PSs X sa (tS (gX X T W Z) d1)) (hb : PSs X sb (tS (gX X T W Z) d2)) : PS X (.If c sa sb pos) (tS (gX X T W Z) (sIf dt d1 d2)) := by
  refine PS.imp (ps_if hc ha hb) fun D σ H q => ?_
  obtain ⟨r, S, q⟩ := q
  refine ⟨r, S, aft_mono (sAft_st S q) (fun k r1 q1 H1 E1 => ?_) fun _ _ z => z⟩
  cases k with
  | true =>
    rw [if_pos rfl] at q1 ⊢
    exact ⟨r1, E1.sim, sAft.then (E1.s S) q1⟩
  | false =>
    rw [if_neg Bool.false_ne_true] at q1 ⊢
    exact ⟨r1, E1.sim, sAft.then (E1.s S) q1⟩
theorem swaps_none {X : Cx} {e : Expr} {t : Option Expr} {n : Nat} (h : ∀ a b c p, e ≠ .ListComp a b c p) (h2 : ∀ a b c p, e ≠ .SetComp a b c p) (h3 : ∀ a b c d p, e ≠ .DictComp a b c d p) : swapsWith e t n X.env = pure false := by
  cases e <;> first | rfl | exact absurd rfl (h _ _ _ _) | exact absurd rfl (h2 _ _ _ _) | exact absurd rfl (h3 _ _ _ _ _)
theorem ss_drop (hs : swapsWith e none pos.line X.env = pure false) (he : PE X e (tE (gX X T W Z) de)) : PS X (.Expr e pos) (tS (gX X T W Z) (sDrop de)) := by
  refine PS.imp (ps_expr he hs) fun D σ H q => ?_
  obtain ⟨r, S, q⟩ := q
  exact ⟨r, S, aft_mono (sAft_st S q) (fun x r1 q1 v H1 E1 R1 => q1 σ H1 (E1.s S)) fun _ _ z => z⟩
theorem ss_ret (he : PE X e (tE (gX X T W Z) de)) : PS X (.Return (some e) pos) (tS (gX X T W Z) (sRet de)) := by
  refine PS.imp (ps_ret he) fun D σ H q => ?_
  obtain ⟨r, S, q⟩ := q
  exact ⟨r, S, aft_mono (sAft_st S q) (fun x r1 q1 v H1 E1 R1 => q1 v σ H1 (E1.s S) R1) fun _ _ z => z⟩
theorem ss_retN : PS X (.Return none pos) (tS (gX X T W Z) sRetN) := PS.imp ps_retN fun D σ H ⟨r, S, q⟩ => q .non σ H (EvS.refl S) (by simp only [ResR, Rp])
theorem ss_raise {x m : Str} {j : Nat} {p p2 p3 : Pos} (hc : X.calm = true) (tk : L2N.Takes X W) {C : Addr} (he : L2N.PMk X (.Call (.Name x p) [.Constant (.str m) j p2] [] p3) (fun _ H Q => Q (.ref C) none H)) (hm : X.mg x = some (.ref C)) :
    PS X (.Raise (some (.Call (.Name x p) [.Constant (.str m) j p2] [] p3)) none pos) (tS (gX X T W Z) (sRaise x)) := by
  refine PS.imp (L2N.ps_raise hc tk he) fun D σ H q => ?_
  obtain ⟨r, S, q⟩ := q
  exact q (.ref C) none σ H (EvS.refl S) ⟨hm, rfl, rfl⟩
/-- x = e -/
theorem ss_asg {i : Nat} {x : Str} {m : Bool} {p : Pos} (h : ∀ te, PE X e te → PS X (.Assign [.Name x p] e pos) (tAsg te (gName i))) (he : PE X e (tE (gX X T W Z) de)) : PS X (.Assign [.Name x p] e pos) (tS (gX X T W Z) (sAsg m i de)) := by
  refine PS.imp (h _ he) fun D σ H q => ?_
  obtain ⟨r, S, q⟩ := q
  refine ⟨r, S, aft_mono (sAft_st S q) (fun x r1 q1 v H1 E1 R1 => ?_) fun _ _ z => z⟩
  have val : sAft (gX X T W Z) D r σ H (nxt ((esc r1 x).bind fun (d, r2) => store i (.va false d) r2)) → D.nx (σ.set i (some v)) H1 := fun q => by
    cases h1 : esc r1 x with
    | none => rw [h1] at q; exact q.elim
    | some dr =>
      obtain ⟨d, r2⟩ := dr
      rw [h1] at q
      obtain ⟨E2, rp⟩ := esc_ok E1.sim (R1.holds S E1) h1
      dsimp only [Option.bind_some] at q
      cases h2 : store i (.va false d) r2 with
      | none => rw [h2] at q; exact q.elim
      | some r3 =>
        rw [h2] at q
        exact q _ H1 (((E1.trans S E2).s S).trans (store_va E2.sim rp h2))
  cases x with
  | va d => exact val (by cases m <;> exact q1)
  | sl j => exact val (by cases m <;> exact q1)
  | nw d =>
    cases m with
    | false => exact val q1
    | true =>
      obtain ⟨a, ev, na, Sz, o⟩ := R1
      subst ev
      dsimp only at q1
      cases h2 : store i (.ow false false d) r1 with
      | none => rw [h2] at q1; exact q1.elim
      | some r3 =>
        rw [h2] at q1
        have nz : ¬ Z a := fun z => (S.zin a z).1 na
        obtain ⟨b1, b2, b3⟩ := store_ow (H0 := H) Sz o nz na h2
        have F := E1.s S
        refine q1 _ H1 ⟨b1, F.ob, F.dom, fun p b m => ?_, fun j t hj => ?_⟩
        · rcases b2 p b m with m | m
          · exact F.mu p b m
          · exact .inr m
        · obtain ⟨s1, c1, c2, c3⟩ := F.slot j t hj
          obtain ⟨s2, c4, c5, c6⟩ := b3 j s1 c1
          exact ⟨s2, c4, c2.trans c5, fun z => (c6 (c2.stays z)).trans (c3 z)⟩
end
end SE
set_option Elab.async false
set_option linter.all false
set_option maxRecDepth 100000
set_option maxHeartbeats 1000000
namespace SE
open PySem L2
section
variable {X : Cx} {T : List (Addr × Str)} {W : WX} {Z : Addr → Prop} {e tg c : Expr} {de : DE} {dt : DT} {pos : Pos} {p : Pat}
/-- targets = e -/
theorem ss_pat (h : ∀ te g, PE X e te → PG X tg g → PS X (.Assign [tg] e pos) (tAsg te g)) (he : PE X e (tE (gX X T W Z) de)) (hg : PG X tg (tG (gX X T W Z) p)) : PS X (.Assign [tg] e pos) (tS (gX X T W Z) (sPat p de)) := by
  refine PS.imp (h _ _ he hg) fun D σ H q => ?_
  obtain ⟨r, S, q⟩ := q
  refine ⟨r, S, aft_mono (sAft_st S q) (fun x r1 q1 v H1 E1 R1 => ?_) fun _ _ z => z⟩
  cases h1 : esc r1 x with
  | none => rw [h1] at q1; exact q1.elim
  | some dr =>
    obtain ⟨d, r2⟩ := dr
    rw [h1] at q1
    obtain ⟨E2, rp⟩ := esc_ok E1.sim (R1.holds S E1) h1
    dsimp only [Option.bind_some] at q1
    cases h2 : put p d r2 with
    | none => rw [h2] at q1; exact q1.elim
    | some r3 =>
      rw [h2] at q1
      exact ⟨r2, d, r3, E2.sim, rp, h2, fun σ' E3 _ => q1 σ' H1 (((E1.trans S E2).s S).trans E3)⟩
end
section
variable {K : PySem.W.Frag} {T : List (Addr × Str)} {Z : Addr → Prop} {r r1 r2 : Env} {σ σ1 σ2 : L2.St} {H H1 H2 : Hp} {i : Nat} {p l l' : Bool} {ds : List D}
theorem flag_mu (h : r[i]? = some (.ow p l (.list ds))) (q : Bool) (a : Addr) : MuP q (r.set i (.ow p l' (.list ds))) σ a ↔ MuP q r σ a := by
  have hi : i < r.length := (List.getElem?_eq_some_iff.mp h).1
  constructor
  · rintro ⟨j, m, d, h1, h2⟩
    rcases getSet h1 with ⟨e1, e2, _⟩ | ⟨_, h1⟩
    · cases e2
      subst e1
      exact ⟨i, l, _, h, h2⟩
    · exact ⟨j, m, d, h1, h2⟩
  · rintro ⟨j, m, d, h1, h2⟩
    by_cases e : i = j
    · subst e
      rw [h] at h1
      cases h1
      exact ⟨i, l', _, List.getElem?_set_self hi, h2⟩
    · exact ⟨j, m, d, by rw [List.getElem?_set_ne e]; exact h1, h2⟩
theorem mu_iff {a : Addr} : Mu r σ a ↔ ∃ p, MuP p r σ a := ⟨fun h => h.p, fun ⟨_, h⟩ => h.mu⟩
theorem flag_mu' (h : r[i]? = some (.ow p l (.list ds))) (a : Addr) : Mu (r.set i (.ow p l' (.list ds))) σ a ↔ Mu r σ a := by
  rw [mu_iff, mu_iff]
  exact exists_congr fun q => flag_mu h q a
theorem flag_sim (S : SimZ K T Z r σ H) (h : r[i]? = some (.ow p l (.list ds))) : SimZ K T Z (r.set i (.ow p l' (.list ds))) σ H := by
  have hi : i < r.length := (List.getElem?_eq_some_iff.mp h).1
  have k : Kept (MuZ Z r σ) (MuZ Z (r.set i (.ow p l' (.list ds))) σ) H H := Kept.less fun a z => z.elim (fun z => .inl ((flag_mu' h a).mp z)) .inr
  refine ⟨by rw [List.length_set]; exact S.len, fun j q d hj => ?_, fun j q m d hj => ?_, fun j j' q q' m m' d d' a h1 h2 h3 h4 => ?_, fun a z m => S.apart a z ((flag_mu' h a).mp m), S.zin, S.tabs⟩
  · rcases getSet hj with ⟨_, e2, _⟩ | ⟨_, hj⟩
    · cases e2
    · obtain ⟨v, a1, a2⟩ := S.va j q d hj
      exact ⟨v, a1, Rp.kept k d v a2⟩
  · rcases getSet hj with ⟨e1, e2, _⟩ | ⟨_, hj⟩
    · cases e2
      subst e1
      obtain ⟨a, a1, vs, a2, a3⟩ := S.ow i p l _ h
      exact ⟨a, a1, vs, a2, RpL.kept k ds vs a3⟩
    · obtain ⟨a, a1, a2⟩ := S.ow j q m d hj
      exact ⟨a, a1, a2.kept k fun _ z => z⟩
  · have back : ∀ (j : Nat) (q m : Bool) (d : D), (r.set i (.ow p l' (.list ds)))[j]? = some (.ow q m d) → ∃ q m d, r[j]? = some (.ow q m d) := fun j q m d hj => by
      rcases getSet hj with ⟨e1, _, _⟩ | ⟨_, hj⟩
      · subst e1; exact ⟨_, _, _, h⟩
      · exact ⟨_, _, _, hj⟩
    obtain ⟨_, _, _, b1⟩ := back j q m d h1
    obtain ⟨_, _, _, b2⟩ := back j' q' m' d' h2
    exact S.inj j j' _ _ _ _ _ _ a b1 b2 h3 h4
theorem unlock_at (h : r1[i]? = some (.ow p l (.list ds))) : unlock (some i) r1 = r1.set i (.ow p false (.list ds)) := by
  simp only [unlock, h]
theorem lock_at (h : r1[i]? = some (.ow p l (.list ds))) : lock (some i) r1 = r1.set i (.ow p true (.list ds)) := by
  simp only [lock, h]
/-- a slot that is locked -/
def LkOk (lk : Option Nat) (r : Env) : Prop := ∀ i, lk = some i → ∃ p ds, r[i]? = some (.ow p false (.list ds))
theorem lock_sim {lk : Option Nat} (S : SimZ K T Z r σ H) (h : LkOk lk r) : SimZ K T Z (lock lk r) σ H := by
  cases lk with
  | none => exact S
  | some i =>
    obtain ⟨p, ds, e⟩ := h i rfl
    rw [lock_at e]
    exact flag_sim S e
/-- what became of a locked slot -/
theorem lock_stays {lk : Option Nat} (h : LkOk lk r) (E : EvS K T Z (lock lk r) σ H r1 σ1 H1) : ∀ i, lk = some i → ∃ p ds, r[i]? = some (.ow p false (.list ds)) ∧ r1[i]? = some (.ow p true (.list ds)) ∧ σ1[i]? = σ[i]? := fun i e => by
  subst e
  obtain ⟨p, ds, e⟩ := h i rfl
  have hi : i < r.length := (List.getElem?_eq_some_iff.mp e).1
  rw [lock_at e] at E
  obtain ⟨s', a1, a2, a3⟩ := E.slot i _ (List.getElem?_set_self hi)
  refine ⟨p, ds, e, ?_, a3 (by cases p <;> rfl)⟩
  cases p with
  | true =>
    rcases a2 with ⟨d', e1, f⟩ | ⟨z, _⟩
    · rw [a1, e1, f rfl]
    · cases z
  | false => rw [a1, show s' = .ow false true (.list ds) from a2]
theorem evs_unlock {lk : Option Nat} (S : SimZ K T Z r σ H) (h : LkOk lk r) (E : EvS K T Z (lock lk r) σ H r1 σ1 H1) : EvS K T Z r σ H (unlock lk r1) σ1 H1 := by
  cases lk with
  | none => exact E
  | some i =>
    obtain ⟨p, ds, e0, e1, es⟩ := lock_stays h E i rfl
    have hi : i < r.length := (List.getElem?_eq_some_iff.mp e0).1
    have hi1 : i < r1.length := (List.getElem?_eq_some_iff.mp e1).1
    rw [unlock_at e1]
    rw [lock_at e0] at E
    refine ⟨flag_sim E.sim e1, fun a o ho t n => E.ob a o ho t fun z => n ((flag_mu' e0 a).mp z), E.dom, fun q a m => ?_, fun j s hj => ?_⟩
    · rcases E.mu q a ((flag_mu e1 q a).mp m) with m | m
      · exact .inl ((flag_mu e0 q a).mp m)
      · exact .inr m
    · by_cases ij : i = j
      · subst ij
        rw [e0] at hj
        cases hj
        exact ⟨_, List.getElem?_set_self hi1, (SlE.refl _).s, fun _ => es⟩
      · obtain ⟨s', a1, a2, a3⟩ := E.slot j s (by rw [List.getElem?_set_ne ij]; exact hj)
        exact ⟨s', by rw [List.getElem?_set_ne ij]; exact a1, a2, a3⟩
theorem res_unlock {lk : Option Nat} (h : LkOk lk r) (E : EvS K T Z (lock lk r) σ H r1 σ1 H1) {H0 : Hp} {x : R} {v : V} (R1 : ResR K T Z σ1 H0 r1 H1 x v) : ResR K T Z σ1 H0 (unlock lk r1) H1 x v := by
  cases lk with
  | none => exact R1
  | some i =>
    obtain ⟨p, ds, e0, e1, es⟩ := lock_stays h E i rfl
    have hi1 : i < r1.length := (List.getElem?_eq_some_iff.mp e1).1
    rw [unlock_at e1]
    cases x with
    | va d => exact Rp.kept (Kept.less fun a z => z.elim (fun z => .inl ((flag_mu' e1 a).mp z)) .inr) d v R1
    | nw d =>
      obtain ⟨a, ev, na, S', o⟩ := R1
      exact ⟨a, ev, na, flag_sim S' e1, o.kept (Kept.less fun b z => z.elim (fun z => .inl ((flag_mu' e1 b).mp z)) .inr) fun _ z => z⟩
    | sl j =>
      obtain ⟨b1, d, b2⟩ := R1
      refine ⟨b1, ?_⟩
      by_cases ij : i = j
      · subst ij
        exact ⟨_, .inr ⟨p, false, List.getElem?_set_self hi1⟩⟩
      · refine ⟨d, ?_⟩
        rw [List.getElem?_set_ne ij]
        exact b2
/-- J yields the data ds, as long as what the frame (r, σ) does not own stays, and the locked slot -/
def Walk (K : PySem.W.Frag) (Z : Addr → Prop) (J : It) (ds : List D) (lk : Option Nat) (r : Env) (σ : L2.St) (H : Hp) : Prop :=
  ∀ (i : Nat) (M : Addr → Prop) (H1 : Hp), (∀ a o, H a = some o → (∀ ps, o ≠ .tbl ps) → ¬ Mu r σ a → H1 a = some o) → (∀ a, M a → MuZ Z r σ a ∨ H a = none) → MIn M H1 →
    (∀ j p d, (lk = some j ∧ r[j]? = some (.ow p false d)) ∨ r[j]? = some (.ow p true d) → ∃ a, σ[j]? = some (some (.ref a)) ∧ RpO K M H1 true d a) →
    (i = ds.length → J.stop i H1) ∧ ∀ d, ds[i]? = some d → J.go i H1 ∧ ∀ x H', J.yld i H1 x H' → Ext H1 H' ∧ Rp K M H' d x
end
def tI (g : G) (it : DI) : TI := fun σ H Rr => ∃ r, SimZ g.K g.T g.Z r σ H ∧ (it r).aft (fun q r' => ∀ J H', EvE g.K g.T g.Z r σ H r' H' → LkOk q.2 r' → Walk g.K g.Z J q.1 q.2 r' σ H' → Rr J H') (exW g r σ H)
theorem PI.best {X : Cx} {tg e : Expr} {t' : TI} (k : ∀ σ H Q, t' σ H Q → ∃ t, PI X tg e t ∧ t σ H Q) : PI X tg e t' := ⟨fun p s σ H Q I q => by
  obtain ⟨t, h, z⟩ := k σ H Q q
  exact h.run p s σ H Q I z⟩
theorem PI.imp {X : Cx} {tg e : Expr} {t t' : TI} (h : PI X tg e t) (k : ∀ σ H Q, t' σ H Q → t σ H Q) : PI X tg e t' := PI.best fun σ H Q q => ⟨t, h, k σ H Q q⟩
section
variable {K : PySem.W.Frag} {T : List (Addr × Str)} {Z : Addr → Prop} {r : Env} {σ : L2.St} {H : Hp} {ds : List D}
/-- a list that nobody changes -/
theorem walk_list {a : Addr} {vs : List V} (h : (∃ u, H a = some u ∧ (u = .lst vs ∨ ∃ o, u = .frz o (.lst vs)) ∧ ¬ Mu r σ a) ∨ KL K a vs) (hl : RpL K (MuZ Z r σ) H ds vs) : Walk K Z (Itl K a) ds none r σ H := by
  intro i M H1 ob hM _ _
  have sq : SqL K H1 a vs := by
    rcases h with ⟨u, hu, e, n⟩ | h
    · have z := ob a u hu (fun ps z => by rcases e with e | ⟨o, e⟩ <;> (rw [e] at z; cases z)) n
      rcases e with e | ⟨o, e⟩
      · rw [e] at z; exact .inl (.inl z)
      · rw [e] at z; exact .inl (.inr ⟨o, z⟩)
    · exact .inr h
  have rl := RpL.kept ⟨fun b o hb t n => ob b o hb t fun z => n (.inl z), hM⟩ ds vs hl
  have len := rl.length
  refine ⟨fun e => ⟨vs, sq, by omega⟩, fun d hd => ?_⟩
  obtain ⟨w, h1, h2⟩ := rl.get hd
  exact ⟨⟨vs, w, sq, h1⟩, fun x H' y => by
    obtain ⟨e1, y⟩ := y
    subst e1
    have := y vs sq
    rw [h1] at this
    cases this
    exact ⟨Ext.refl _, h2⟩⟩
theorem walk_tup {a : Addr} {vs : List V} (h : (∃ u, H a = some u ∧ (u = .tup vs ∨ ∃ o, u = .frz o (.tup vs)) ∧ ¬ Mu r σ a) ∨ KT K a vs) (hl : RpL K (MuZ Z r σ) H ds vs) : Walk K Z (Itt K a) ds none r σ H := by
  intro i M H1 ob hM _ _
  have sq : SqT K H1 a vs := by
    rcases h with ⟨u, hu, e, n⟩ | h
    · have z := ob a u hu (fun ps z => by rcases e with e | ⟨o, e⟩ <;> (rw [e] at z; cases z)) n
      rcases e with e | ⟨o, e⟩
      · rw [e] at z; exact .inl (.inl z)
      · rw [e] at z; exact .inl (.inr ⟨o, z⟩)
    · exact .inr h
  have rl := RpL.kept ⟨fun b o hb t n => ob b o hb t fun z => n (.inl z), hM⟩ ds vs hl
  have len := rl.length
  refine ⟨fun e => ⟨vs, sq, by omega⟩, fun d hd => ?_⟩
  obtain ⟨w, h1, h2⟩ := rl.get hd
  exact ⟨⟨vs, w, sq, h1⟩, fun x H' y => by
    obtain ⟨e1, y⟩ := y
    subst e1
    have := y vs sq
    rw [h1] at this
    cases this
    exact ⟨Ext.refl _, h2⟩⟩
/-- a slot's own list, locked -/
theorem walk_own {a : Addr} {j : Nat} {p : Bool} {q : Option Nat} (hj : (q = some j ∧ r[j]? = some (.ow p false (.list ds))) ∨ r[j]? = some (.ow p true (.list ds))) (hs : σ[j]? = some (some (.ref a))) : Walk K Z (Itl K a) ds q r σ H := by
  intro i M H1 ob hM _ lk
  obtain ⟨b, h1, vs, h2, rl⟩ := lk j p _ hj
  rw [hs] at h1
  have e : V.ref a = V.ref b := by simpa using h1
  cases e
  have sq : SqL K H1 a vs := .inl (.inl h2)
  have len := rl.length
  refine ⟨fun e => ⟨vs, sq, by omega⟩, fun d hd => ?_⟩
  obtain ⟨w, h1, h2⟩ := rl.get hd
  exact ⟨⟨vs, w, sq, h1⟩, fun x H' y => by
    obtain ⟨e1, y⟩ := y
    subst e1
    have := y vs sq
    rw [h1] at this
    cases this
    exact ⟨Ext.refl _, h2⟩⟩
theorem rng_len (lo : Int) (n : Nat) : (rng lo n).length = n := by unfold rng; rw [List.length_map, List.length_range]
theorem rng_get {lo : Int} {n i : Nat} {d : D} (h : (rng lo n)[i]? = some d) : i < n ∧ d = .int (lo + (i : Int)) := by
  unfold rng at h
  rw [List.getElem?_map] at h
  by_cases hi : i < n
  · rw [List.getElem?_range hi] at h
    exact ⟨hi, (Option.some.inj h).symm⟩
  · rw [List.getElem?_eq_none (by rw [List.length_range]; omega)] at h
    cases h
theorem walk_rng {lo : Int} {n : Nat} : Walk K Z (Itr lo n) (rng lo n) none r σ H := by
  intro i M H1 ob hM _ _
  refine ⟨fun e => ?_, fun d hd => ?_⟩
  · rw [rng_len] at e
    show n ≤ i
    omega
  · obtain ⟨h1, h2⟩ := rng_get hd
    refine ⟨h1, fun x H' y => ?_⟩
    obtain ⟨e1, e2⟩ := y
    subst e1 e2 h2
    exact ⟨Ext.refl _, by simp only [Rp]⟩
end
section
variable {X : Cx} {T : List (Addr × Str)} {W : WX} {Z : Addr → Prop} {a b e tg : Expr} {da db de : DE} {pos p1 : Pos}
theorem lkNone {r : Env} : LkOk none r := fun i z => by cases z
theorem si_seq (h : PE X e (tE (gX X T W Z) de)) : PI X tg e (tI (gX X T W Z) (iSeq de)) := by
  refine PI.best fun σ H Rr q => ?_
  obtain ⟨r, S, q⟩ := q
  have q := aft_bind q
  -- the walked thing is a list, or a tuple: known before it is reckoned
  have key : ∀ (isT : Bool), (∀ x r1 ds, (der r1 x).bind items = some ds → de r = .ok x r1 → ∃ es, der r1 x = some (if isT = true then PyData.tuple es else PyData.list es)) → ∃ t, PI X tg e t ∧ t σ H Rr := fun isT hk => by
    cases isT with
    | true =>
      refine ⟨_, pi_tup h, r, S, ?_⟩
      cases hx : de r with
      | bad => rw [hx] at q; exact q.elim
      | ex ee r1 => rw [hx] at q; exact q
      | ok x r1 =>
        rw [hx] at q
        intro v H1 E1 R1
        have q : (match (der r1 x).bind items with
          | none => Out.bad
          | some ds => _).aft _ _ := q
        cases hd : (der r1 x).bind items with
        | none => rw [hd] at q; exact q.elim
        | some ds =>
          rw [hd] at q
          obtain ⟨es, he⟩ := hk x r1 ds hd hx
          rw [if_pos rfl] at he
          have e1 : es = ds := by rw [he] at hd; exact Option.some.inj hd
          subst e1
          have hh := R1.holds S E1
          obtain ⟨p, vs, ev, hq, rl⟩ := hh.der E1.sim he
          subst ev
          refine ⟨p, rfl, ⟨vs, hq⟩, ?_⟩
          have wk : Walk X.K Z (Itt X.K p) es none r1 σ H1 := by
            refine walk_tup ?_ rl
            rcases hq with hq | hq
            · refine .inl ?_
              have nm : ¬ Mu r1 σ p := fun m => by
                obtain ⟨i, p', l, d, m1, m2⟩ := m
                obtain ⟨b, b1, b2⟩ := E1.sim.ow i p' l d m1
                rw [m2] at b1
                cases b1
                cases d with
                | list ds =>
                  obtain ⟨ws, c1, _⟩ := b2
                  rcases hq with hq | ⟨o, hq⟩ <;> (rw [c1] at hq; cases hq)
                | dict kvs =>
                  rcases b2 with ⟨ks, c1, _⟩ | ⟨ks, c1, _⟩ <;> (cases l with
                    | true => obtain ⟨o', c1⟩ := c1; rcases hq with hq | ⟨o, hq⟩ <;> (rw [c1] at hq; cases hq)
                    | false => simp only [Bool.false_eq_true, if_false] at c1; rcases hq with hq | ⟨o, hq⟩ <;> (rw [c1] at hq; cases hq))
                | none => exact b2.elim
                | bool _ => exact b2.elim
                | int _ => exact b2.elim
                | str _ => exact b2.elim
                | tuple _ => exact b2.elim
              rcases hq with hq | ⟨o, hq⟩
              · exact ⟨_, hq, .inl rfl, nm⟩
              · exact ⟨_, hq, .inr ⟨o, rfl⟩, nm⟩
            · exact .inr hq
          cases x with
          | va d => exact q _ H1 E1 lkNone wk
          | nw d =>
            obtain ⟨a', _, _, _, o⟩ := R1
            simp only [der] at he
            cases he
            exact o.elim
          | sl i =>
            obtain ⟨_, d0, h2⟩ := hh
            rcases h2 with ⟨p', h2⟩ | ⟨p', l, h2⟩
            · simp only [h2] at q
              exact q _ H1 E1 lkNone wk
            · simp only [der, h2] at he
              cases he
              obtain ⟨b, b1, b2⟩ := E1.sim.ow i p' l _ h2
              exact b2.elim
    | false =>
      refine ⟨_, pi_list h, r, S, ?_⟩
      cases hx : de r with
      | bad => rw [hx] at q; exact q.elim
      | ex ee r1 => rw [hx] at q; exact q
      | ok x r1 =>
        rw [hx] at q
        intro v H1 E1 R1
        have q : (match (der r1 x).bind items with
          | none => Out.bad
          | some ds => _).aft _ _ := q
        cases hd : (der r1 x).bind items with
        | none => rw [hd] at q; exact q.elim
        | some ds =>
          rw [hd] at q
          obtain ⟨es, he⟩ := hk x r1 ds hd hx
          rw [if_neg Bool.false_ne_true] at he
          have e1 : es = ds := by rw [he] at hd; exact Option.some.inj hd
          subst e1
          have hh := R1.holds S E1
          cases x with
          | va d =>
            simp only [der] at he
            cases he
            have R2 : Rp X.K (MuZ Z r1 σ) H1 (.list es) v := R1
            simp only [Rp] at R2
            obtain ⟨p, vs, ev, hq, rl⟩ := R2
            subst ev
            refine ⟨p, rfl, ⟨vs, hq.sq⟩, q _ H1 E1 lkNone (walk_list ?_ rl)⟩
            rcases hq with ⟨hq, n⟩ | hq
            · rcases hq with hq | ⟨o, hq⟩
              · exact .inl ⟨_, hq, .inl rfl, fun z => n (.inl z)⟩
              · exact .inl ⟨_, hq, .inr ⟨o, rfl⟩, fun z => n (.inl z)⟩
            · exact .inr hq
          | nw d =>
            simp only [der] at he
            cases he
            obtain ⟨p, ev, n, vs, hq, rl⟩ := hh
            subst ev
            exact ⟨p, rfl, ⟨vs, .inl (.inl hq)⟩, q _ H1 E1 lkNone (walk_list (.inl ⟨_, hq, .inl rfl, n.1⟩) rl)⟩
          | sl i =>
            obtain ⟨b1, d0, h2⟩ := hh
            rcases h2 with ⟨p', h2⟩ | ⟨p', l, h2⟩
            · simp only [der, h2] at he
              cases he
              obtain ⟨w, c1, R2⟩ := E1.sim.va i p' _ h2
              rw [b1] at c1
              cases c1
              simp only [Rp] at R2
              obtain ⟨p, vs, ev, hq, rl⟩ := R2
              subst ev
              simp only [h2] at q
              refine ⟨p, rfl, ⟨vs, hq.sq⟩, q _ H1 E1 lkNone (walk_list ?_ rl)⟩
              rcases hq with ⟨hq, n⟩ | hq
              · rcases hq with hq | ⟨o, hq⟩
                · exact .inl ⟨_, hq, .inl rfl, fun z => n (.inl z)⟩
                · exact .inl ⟨_, hq, .inr ⟨o, rfl⟩, fun z => n (.inl z)⟩
              · exact .inr hq
            · simp only [der, h2] at he
              cases he
              obtain ⟨p, c1, vs, hq, rl⟩ := E1.sim.ow i p' l _ h2
              rw [b1] at c1
              cases c1
              cases l with
              | false =>
                simp only [h2] at q
                exact ⟨p, rfl, ⟨vs, .inl (.inl hq)⟩, q _ H1 E1 (fun j z => by cases z; exact ⟨p', _, h2⟩) (walk_own (.inl ⟨rfl, h2⟩) b1)⟩
              | true =>
                simp only [h2] at q
                exact ⟨p, rfl, ⟨vs, .inl (.inl hq)⟩, q _ H1 E1 lkNone (walk_own (.inr h2) b1)⟩
  cases hx : de r with
  | bad => rw [hx] at q; exact q.elim
  | ex ee r1 => exact key true fun x r2 ds _ z => by rw [hx] at z; cases z
  | ok x r1 =>
    rw [hx] at q
    have q : (match (der r1 x).bind items with
      | none => Out.bad
      | some ds => _).aft _ _ := q
    cases hd : (der r1 x) with
    | none => rw [hd] at q; exact q.elim
    | some d =>
      cases d with
      | list es => exact key false fun x2 r2 ds _ z => by rw [hx] at z; cases z; exact ⟨es, by rw [hd]; rfl⟩
      | tuple es => exact key true fun x2 r2 ds _ z => by rw [hx] at z; cases z; exact ⟨es, by rw [hd]; rfl⟩
      | none => rw [hd] at q; exact q.elim
      | bool _ => rw [hd] at q; exact q.elim
      | int _ => rw [hd] at q; exact q.elim
      | str _ => rw [hd] at q; exact q.elim
      | dict _ => rw [hd] at q; exact q.elim

theorem si_rng1 (h : ∀ ta, PA X [a] ta → PI X tg e (L2.iRng1 ta)) (hs : ∀ b p, a ≠ .Starred b p) (ha : PE X a (tE (gX X T W Z) da)) : PI X tg e (tI (gX X T W Z) (SE.iRng1 da)) := by
  refine PI.imp (h _ (sr_cons hs ha sr_nil)) fun σ H Rr q => ?_
  obtain ⟨r, S, q⟩ := q
  refine ⟨r, S, ?_⟩
  have q := aft_bind q
  unfold rCons
  cases hx : da r with
  | bad => rw [hx] at q; exact q.elim
  | ex ee r1 => rw [hx] at q; exact q
  | ok x r1 =>
    rw [hx] at q
    rintro vs H1 E1 ⟨v, ws, e1, hv, hw⟩
    cases (show ws = [] from hw)
    subst e1
    have q : (match (der r1 x).bind asI with
      | some n => _
      | none => Out.bad).aft _ _ := q
    cases hd : (der r1 x).bind asI with
    | none => rw [hd] at q; exact q.elim
    | some n =>
      rw [hd] at q
      dsimp only at q
      obtain ⟨d, hd1, hd2⟩ := bind_some2 hd
      have ev := rpI_int (hv.der E1.sim hd1) hd2
      subst ev
      by_cases hb : -big62 ≤ n ∧ n < big62
      · rw [if_pos hb] at q
        exact ⟨n, rfl, hb.1, hb.2, q _ H1 E1 lkNone walk_rng⟩
      · rw [if_neg hb] at q; exact q.elim
theorem si_rng2 (h : ∀ ta, PA X [a, b] ta → PI X tg e (L2.iRng2 ta)) (hs : ∀ b p, a ≠ .Starred b p) (hs2 : ∀ c p, b ≠ .Starred c p) (ha : PE X a (tE (gX X T W Z) da)) (hb : PE X b (tE (gX X T W Z) db)) : PI X tg e (tI (gX X T W Z) (SE.iRng2 da db)) := by
  refine PI.imp (h _ (sr_cons hs ha (sr_cons hs2 hb sr_nil))) fun σ H Rr q => ?_
  obtain ⟨r, S, q⟩ := q
  refine ⟨r, S, ?_⟩
  have q := aft_bind q
  unfold rCons
  cases hx : da r with
  | bad => rw [hx] at q; exact q.elim
  | ex ee r1 => rw [hx] at q; exact q
  | ok x r1 =>
    rw [hx] at q
    have q := aft_bind q
    show (((rCons db rNil) r1).bind fun xs r2 => Out.ok (x :: xs) r2).aft _ _
    unfold rCons
    cases hy : db r1 with
    | bad => rw [hy] at q; exact q.elim
    | ex ee r2 => rw [hy] at q; exact q
    | ok y r2 =>
      rw [hy] at q
      rintro vs H1 E1 ⟨v, ws, e1, hv, w, ws', e2, hw, hn⟩
      cases (show ws' = [] from hn)
      subst e1 e2
      have q : (match (der r2 x).bind asI, (der r2 y).bind asI with
        | some m, some n => _
        | _, _ => Out.bad).aft _ _ := q
      cases hd : (der r2 x).bind asI with
      | none => rw [hd] at q; exact q.elim
      | some m =>
        cases hd' : (der r2 y).bind asI with
        | none => rw [hd, hd'] at q; exact q.elim
        | some n =>
          rw [hd, hd'] at q
          dsimp only at q
          obtain ⟨d, hd1, hd2⟩ := bind_some2 hd
          obtain ⟨d', hd1', hd2'⟩ := bind_some2 hd'
          have ev := rpI_int (hv.der E1.sim hd1) hd2
          have ew := rpI_int (hw.der E1.sim hd1') hd2'
          subst ev ew
          by_cases hb : (-big62 ≤ m ∧ m < big62) ∧ -big62 ≤ n ∧ n < big62
          · rw [if_pos hb] at q
            exact ⟨m, n, rfl, ⟨hb.1.1, hb.1.2, hb.2.1, hb.2.2⟩, q _ H1 E1 lkNone walk_rng⟩
          · rw [if_neg hb] at q; exact q.elim
variable {body : List Stmt} {it : DI} {p : Pat} {db : DS} {dt : DT} {c : Expr}
theorem forL_nil {p : Pat} {b : DS} {r : Env} : forL p b [] r = .nx r := rfl
theorem forL_cons {p : Pat} {b : DS} {d : D} {ds : List D} {r : Env} : forL p b (d :: ds) r = match put p d r with
    | none => .bad
    | some r1 => match b r1 with
      | .nx r2 => forL p b ds r2
      | .ct r2 => forL p b ds r2
      | .bk r2 => .nx r2
      | .rt v r2 => .rt v r2
      | .ex e r2 => .ex e r2
      | .bad => .bad := rfl
theorem sAft_bad {g : G} {D : Ends} {r : Env} {σ : L2.St} {H : Hp} (h : sAft g D r σ H .bad) : False := h
theorem ss_for (hp : PassesOwn (model X.prog X.w) X.A X.env X.xe) (hc : X.calm = true) (hi : PI X tg e (tI (gX X T W Z) it)) (hg : PG X tg (tG (gX X T W Z) p)) (hb : PSs X body (tS (gX X T W Z) db)) (hs : ∀ x, foldedSetIterable e X.env x = pure x) :
    PS X (.For tg e body [] pos) (tS (gX X T W Z) (sFor it p db)) := by
  refine PS.imp (ps_for hp hc hi hg hb hs) fun D σ H q => ?_
  obtain ⟨r, S, q⟩ := q
  refine ⟨r, S, ?_⟩
  unfold sFor at q
  cases hx : it r with
  | bad => rw [hx] at q; exact q.elim
  | ex ee r1 => rw [hx] at q; exact fun c dd H' E R => q c dd σ H' (E.s S) R
  | ok dl r1 =>
    obtain ⟨ds, lk⟩ := dl
    rw [hx] at q
    intro J H1 E1 lko wk
    dsimp only at q lko wk
    -- what is wanted of the loop's outcome, from anywhere within it
    have ev : ∀ {rk : Env} {σk : L2.St} {Hk : Hp}, EvS X.K T Z (lock lk r1) σ H1 rk σk Hk → EvS X.K T Z r σ H (unlock lk rk) σk Hk := fun F => (E1.s S).trans (evs_unlock E1.sim lko F)
    refine ⟨fun i m σk Hk => m = ds.length - i ∧ i ≤ ds.length ∧ ∃ rk, EvS X.K T Z (lock lk r1) σ H1 rk σk Hk ∧ forL p db (ds.drop i) rk = forL p db ds (lock lk r1), ⟨_, rfl, Nat.zero_le _, _, EvS.refl (lock_sim E1.sim lko), rfl⟩, ?_⟩
    rintro i m σk Hk ⟨rfl, hil, rk, F, eo⟩
    have U := evs_unlock E1.sim lko F
    obtain ⟨w1, w2⟩ := wk i (MuZ Z rk σk) Hk (fun a o ho t n => U.ob a o ho t n) (fun a z => by
      rcases z with z | z
      · have z' : Mu (unlock lk rk) σk a ∨ Mu r1 σ a ∨ H1 a = none := by
          rcases F.mu' z with z | z
          · refine .inr (.inl ?_)
            cases lk with
            | none => exact z
            | some j =>
              obtain ⟨p', ds', e0⟩ := lko j rfl
              rw [lock_at e0] at z
              exact (flag_mu' e0 a).mp z
          · exact .inr (.inr z)
        rcases z' with z' | z' | z'
        · rcases U.mu' z' with z' | z'
          · exact .inl (.inl z')
          · exact .inr z'
        · exact .inl (.inl z')
        · exact .inr z'
      · exact .inl (.inr z)) F.sim.min (fun j p' d hj => by
      rcases hj with ⟨e1, hj⟩ | hj
      · obtain ⟨p2, ds2, a1, a2, a3⟩ := lock_stays lko F j e1
        rw [a1] at hj
        cases hj
        obtain ⟨a, b1, b2⟩ := F.sim.ow j p' true _ a2
        exact ⟨a, by rw [← a3]; exact b1, b2⟩
      · have hl : (lock lk r1)[j]? = some (.ow p' true d) := by
          cases lk with
          | none => exact hj
          | some k =>
            obtain ⟨p2, ds2, e0⟩ := lko k rfl
            rw [lock_at e0]
            by_cases kj : k = j
            · subst kj
              rw [e0] at hj
              cases hj
            · rw [List.getElem?_set_ne kj]
              exact hj
        obtain ⟨s', a1, a2, a3⟩ := F.slot j _ hl
        have es := a3 (by cases p' <;> rfl)
        have e2 : s' = .ow p' true d := by
          cases p' with
          | true =>
            rcases a2 with ⟨d', e1, f⟩ | ⟨z, _⟩
            · rw [e1, f rfl]
            · cases z
          | false => exact a2
        rw [e2] at a1
        obtain ⟨a, b1, b2⟩ := F.sim.ow j p' true _ a1
        exact ⟨a, by rw [← es]; exact b1, b2⟩)
    by_cases hlt : i < ds.length
    · refine .inr ?_
      obtain ⟨go, yl⟩ := w2 ds[i] (List.getElem?_eq_getElem hlt)
      have ed : ds.drop i = ds[i] :: ds.drop (i + 1) := List.drop_eq_getElem_cons hlt
      rw [ed, forL_cons] at eo
      refine ⟨go, fun σ' H' => ∃ r', EvS X.K T Z (lock lk r1) σ H1 r' σ' H' ∧ forL p db (ds.drop (i + 1)) r' = forL p db ds (lock lk r1), fun σ' H' ⟨r', G1, G2⟩ => ⟨_, by omega, rfl, hlt, r', G1, G2⟩, fun x H' y => ?_⟩
      obtain ⟨ex, rp⟩ := yl x H' y
      have F1 := F.trans (EvE.s F.sim (EvE.ext F.sim ex))
      cases hput : put p ds[i] rk with
      | none =>
        rw [hput] at eo
        rw [← eo] at q
        exact q.elim
      | some r2 =>
        rw [hput] at eo
        dsimp only at eo
        refine ⟨rk, ds[i], r2, F1.sim, rp, hput, fun σ2 F2 _ => ⟨r2, F2.sim, ?_⟩⟩
        have F3 := F1.trans F2
        cases hbo : db r2 with
        | nx r3 => rw [hbo] at eo; exact fun σ' H' G1 => ⟨r3, F3.trans G1, eo⟩
        | ct r3 => rw [hbo] at eo; exact fun σ' H' G1 => ⟨r3, F3.trans G1, eo⟩
        | bk r3 =>
          rw [hbo] at eo
          dsimp only at eo
          rw [← eo] at q
          exact fun σ' H' G1 => q σ' H' (ev (F3.trans G1))
        | rt x3 r3 =>
          rw [hbo] at eo
          dsimp only at eo
          rw [← eo] at q
          exact fun v σ' H' G1 R1 => q v σ' H' (ev (F3.trans G1)) (res_unlock lko (F3.trans G1) (R1.dom fun a h => E1.dom a (F3.dom a h)))
        | ex x3 r3 =>
          rw [hbo] at eo
          dsimp only at eo
          rw [← eo] at q
          exact fun c dd σ' H' G1 R1 => q c dd σ' H' (ev (F3.trans G1)) R1
        | bad =>
          rw [hbo] at eo
          dsimp only at eo
          rw [← eo] at q
          exact q.elim
    · have ei : i = ds.length := by omega
      refine .inl ⟨w1 ei, ?_⟩
      rw [ei, List.drop_length, forL_nil] at eo
      rw [← eo] at q
      exact q σk Hk (ev F)
theorem ss_while (hp : PassesOwn (model X.prog X.w) X.A X.env X.xe) (hc : PT X c (tT (gX X T W Z) dt)) (hb : PSs X body (tS (gX X T W Z) db)) : PS X (.While c body [] pos) (tS (gX X T W Z) (sWhile dt db)) := by
  refine PS.imp (ps_while hp hc hb) fun D σ H q => ?_
  obtain ⟨r, S, q⟩ := q
  unfold sWhile at q
  generalize turns = n at q
  refine ⟨fun m σk Hk => ∃ rk, EvS X.K T Z r σ H rk σk Hk ∧ sAft (gX X T W Z) D r σ H (whileL dt db m rk), ⟨n, r, EvS.refl S, q⟩, ?_⟩
  rintro m σk Hk ⟨rk, F, q⟩
  cases m with
  | zero => exact q.elim
  | succ m =>
    unfold whileL at q
    refine ⟨rk, F.sim, ?_⟩
    cases ht : dt rk with
    | bad => rw [ht] at q; exact q.elim
    | ex ee r1 => rw [ht] at q; exact fun c dd H' E R => q c dd σk H' (F.trans (E.s F.sim)) R
    | ok k r1 =>
      rw [ht] at q
      intro H1 E1
      have F1 := F.trans (E1.s F.sim)
      cases k with
      | false =>
        rw [if_neg Bool.false_ne_true]
        exact q σk H1 F1
      | true =>
        rw [if_pos rfl]
        refine ⟨fun σ' H' => ∃ r', EvS X.K T Z r σ H r' σ' H' ∧ sAft (gX X T W Z) D r σ H (whileL dt db m r'), fun σ' H' ⟨r', G1, G2⟩ => ⟨m, Nat.lt_succ_self _, r', G1, G2⟩, r1, E1.sim, ?_⟩
        dsimp only at q
        cases hbo : db r1 with
        | nx r3 => rw [hbo] at q; exact fun σ' H' G1 => ⟨r3, F1.trans G1, q⟩
        | ct r3 => rw [hbo] at q; exact fun σ' H' G1 => ⟨r3, F1.trans G1, q⟩
        | bk r3 => rw [hbo] at q; exact fun σ' H' G1 => q σ' H' (F1.trans G1)
        | rt x3 r3 => rw [hbo] at q; exact fun v σ' H' G1 R1 => q v σ' H' (F1.trans G1) (R1.dom F1.dom)
        | ex x3 r3 => rw [hbo] at q; exact fun c dd σ' H' G1 R1 => q c dd σ' H' (F1.trans G1) R1
        | bad => rw [hbo] at q; exact q.elim
end
end SE
set_option Elab.async false
set_option linter.all false
set_option maxRecDepth 100000
set_option maxHeartbeats 1000000
namespace SE
open PySem L2
theorem wipeE_len (r : Env) : ∀ vs : List Nat, (wipeE vs r).length = r.length
  | [] => rfl
  | v :: vs => by unfold wipeE; rw [List.length_set, wipeE_len r vs]
theorem wipeE_out {r : Env} {j : Nat} : ∀ {vs : List Nat}, j ∉ vs → (wipeE vs r)[j]? = r[j]?
  | [], _ => rfl
  | v :: vs, h => by
    simp only [List.mem_cons, not_or] at h
    unfold wipeE
    rw [List.getElem?_set_ne (Ne.symm h.1), wipeE_out h.2]
theorem wipeE_in {r : Env} {j : Nat} (hj : j < r.length) : ∀ {vs : List Nat}, j ∈ vs → (wipeE vs r)[j]? = some .un
  | [], h => by cases h
  | v :: vs, h => by
    unfold wipeE
    by_cases e : v = j
    · subst e
      exact List.getElem?_set_self (by rw [wipeE_len]; exact hj)
    · rw [List.getElem?_set_ne e]
      exact wipeE_in hj (by simpa [Ne.symm e] using h)
theorem backE_len (r0 r : Env) : ∀ vs : List Nat, (backE r0 vs r).length = r.length
  | [] => rfl
  | v :: vs => by
    unfold backE
    split
    · rw [List.length_set, backE_len r0 r vs]
    · exact backE_len r0 r vs
theorem backE_out {r0 r : Env} {j : Nat} : ∀ {vs : List Nat}, j ∉ vs → (backE r0 vs r)[j]? = r[j]?
  | [], _ => rfl
  | v :: vs, h => by
    simp only [List.mem_cons, not_or] at h
    unfold backE
    split
    · rw [List.getElem?_set_ne (Ne.symm h.1), backE_out h.2]
    · exact backE_out h.2
theorem backE_in {r0 r : Env} {j : Nat} (hl : r.length = r0.length) (hj : j < r0.length) : ∀ {vs : List Nat}, j ∈ vs → (backE r0 vs r)[j]? = r0[j]?
  | [], h => by cases h
  | v :: vs, h => by
    unfold backE
    by_cases e : v = j
    · subst e
      rw [List.getElem?_eq_getElem hj]
      exact List.getElem?_set_self (by rw [backE_len, hl]; exact hj)
    · have h' : j ∈ vs := by simpa [Ne.symm e] using h
      split
      · rw [List.getElem?_set_ne e]
        exact backE_in hl hj h'
      · exact backE_in hl hj h'
theorem wipe_out {σ : L2.St} {j : Nat} : ∀ {vs : List Nat}, j ∉ vs → (wipe σ vs)[j]? = σ[j]?
  | [], _ => rfl
  | v :: vs, h => by
    simp only [List.mem_cons, not_or] at h
    unfold wipe
    rw [List.getElem?_set_ne (Ne.symm h.1), wipe_out h.2]
theorem wipe_in {σ : L2.St} {j : Nat} (hj : j < σ.length) : ∀ {vs : List Nat}, j ∈ vs → (wipe σ vs)[j]? = some none
  | [], h => by cases h
  | v :: vs, h => by
    unfold wipe
    by_cases e : v = j
    · subst e
      exact List.getElem?_set_self (by rw [wipe_length]; exact hj)
    · rw [List.getElem?_set_ne e]
      exact wipe_in hj (by simpa [Ne.symm e] using h)
theorem wipe_agree {σ σ' : L2.St} {vs l : List Nat} (hl : ∀ j ∈ l, j ∈ vs) (h : Agree l (wipe σ vs) σ') : wipe σ' vs = wipe σ vs := by
  have len : σ'.length = σ.length := by rw [h.1, wipe_length]
  refine List.ext_getElem? fun j => ?_
  by_cases hj : j ∈ vs
  · by_cases hs : j < σ.length
    · rw [wipe_in hs hj, wipe_in (by rw [len]; exact hs) hj]
    · rw [List.getElem?_eq_none (by rw [wipe_length]; omega), List.getElem?_eq_none (by rw [wipe_length]; omega)]
  · rw [wipe_out hj, wipe_out hj, h.2 j fun z => hj (hl j z), wipe_out hj]
theorem wipeE_idem (vs : List Nat) (r : Env) : wipeE vs (wipeE vs r) = wipeE vs r := by
  refine List.ext_getElem? fun j => ?_
  by_cases hj : j ∈ vs
  · by_cases hs : j < r.length
    · rw [wipeE_in (by rw [wipeE_len]; exact hs) hj, wipeE_in hs hj]
    · rw [List.getElem?_eq_none (by rw [wipeE_len, wipeE_len]; omega), List.getElem?_eq_none (by rw [wipeE_len]; omega)]
  · rw [wipeE_out hj]
theorem notOw_no {r : Env} {i : Nat} (h : notOw r i = true) : ∀ p l d, r[i]? ≠ some (.ow p l d) := fun p l d z => by
  unfold notOw at h
  rw [z] at h
  cases h
theorem notOw_of {r : Env} {i : Nat} (hi : i < r.length) (h : ∀ p l d, r[i]? ≠ some (.ow p l d)) : notOw r i = true := by
  unfold notOw
  cases e : r[i] with
  | un => rw [List.getElem?_eq_getElem hi, e]
  | va p d => rw [List.getElem?_eq_getElem hi, e]
  | ow p l d => exact absurd (by rw [List.getElem?_eq_getElem hi, e]) (h p l d)
section
variable {K : PySem.W.Frag} {T : List (Addr × Str)} {Z Zc : Addr → Prop} {r r1 : Env} {σ σ1 : L2.St} {H H1 : Hp}
theorem wipeE_ow {vs : List Nat} {j : Nat} {p l : Bool} {d : D} (h : (wipeE vs r)[j]? = some (.ow p l d)) : j ∉ vs ∧ r[j]? = some (.ow p l d) := by
  by_cases hj : j ∈ vs
  · have hl : j < r.length := by rw [← wipeE_len r vs]; exact (List.getElem?_eq_some_iff.mp h).1
    rw [wipeE_in hl hj] at h
    cases h
  · exact ⟨hj, by rw [← wipeE_out hj]; exact h⟩
theorem wipeE_va {vs : List Nat} {j : Nat} {p : Bool} {d : D} (h : (wipeE vs r)[j]? = some (.va p d)) : j ∉ vs ∧ r[j]? = some (.va p d) := by
  by_cases hj : j ∈ vs
  · have hl : j < r.length := by rw [← wipeE_len r vs]; exact (List.getElem?_eq_some_iff.mp h).1
    rw [wipeE_in hl hj] at h
    cases h
  · exact ⟨hj, by rw [← wipeE_out hj]; exact h⟩
theorem wipe_mu {vs : List Nat} (hn : ∀ v ∈ vs, ∀ p l d, r[v]? ≠ some (.ow p l d)) (a : Addr) : Mu (wipeE vs r) (wipe σ vs) a ↔ Mu r σ a := by
  constructor
  · rintro ⟨j, p, l, d, h1, h2⟩
    obtain ⟨nj, h1⟩ := wipeE_ow h1
    rw [wipe_out nj] at h2
    exact ⟨j, p, l, d, h1, h2⟩
  · rintro ⟨j, p, l, d, h1, h2⟩
    have nj : j ∉ vs := fun z => hn j z p l d h1
    exact ⟨j, p, l, d, by rw [wipeE_out nj]; exact h1, by rw [wipe_out nj]; exact h2⟩
theorem wipe_sim {vs : List Nat} (S : SimZ K T Z r σ H) (hn : ∀ v ∈ vs, ∀ p l d, r[v]? ≠ some (.ow p l d)) : SimZ K T Z (wipeE vs r) (wipe σ vs) H := by
  have k : Kept (MuZ Z r σ) (MuZ Z (wipeE vs r) (wipe σ vs)) H H := Kept.less fun a z => z.elim (fun z => .inl ((wipe_mu hn a).mp z)) .inr
  refine ⟨by rw [wipeE_len, wipe_length]; exact S.len, fun j p d h => ?_, fun j p l d h => ?_, fun j j' p q l m d d' a h1 h2 h3 h4 => ?_, fun a z m => S.apart a z ((wipe_mu hn a).mp m), S.zin, S.tabs⟩
  · obtain ⟨nj, h⟩ := wipeE_va h
    obtain ⟨v, a1, a2⟩ := S.va j p d h
    exact ⟨v, by rw [wipe_out nj]; exact a1, Rp.kept k d v a2⟩
  · obtain ⟨nj, h⟩ := wipeE_ow h
    obtain ⟨v, a1, a2⟩ := S.ow j p l d h
    exact ⟨v, by rw [wipe_out nj]; exact a1, a2.kept k fun _ z => z⟩
  · obtain ⟨n1, h1⟩ := wipeE_ow h1
    obtain ⟨n2, h2⟩ := wipeE_ow h2
    rw [wipe_out n1] at h3
    rw [wipe_out n2] at h4
    exact S.inj j j' p q l m d d' a h1 h2 h3 h4
theorem noTb_lst {H : Hp} {a : Addr} {xs : List V} (h : H a = some (.lst xs)) : NoTb H a := ⟨fun ps z => (by rw [h] at z; cases z), fun ys z => by rcases z with z | ⟨q, z⟩ <;> (rw [h] at z; cases z)⟩
/-- an object that is another's is changed -/
theorem sim_upd {b : Addr} {o : HO} (S : SimZ K T Z r σ H) (hz : Z b) (h0 : ∃ u, H b = some u ∧ (∀ ps, u ≠ .tbl ps) ∧ ∀ φ, u ≠ .ext φ) (h1 : (∀ ps, o ≠ .tbl ps) ∧ (∀ xs, o ≠ .tup xs) ∧ ∀ q xs, o ≠ .frz q (.tup xs)) : SimZ K T Z r σ (upd H b o) := by
  have k : Kept (MuZ Z r σ) (MuZ Z r σ) H (upd H b o) := ⟨fun a u h _ n => by rw [upd_ne fun z => n (.inr (by rw [z]; exact hz))]; exact h, fun a z => .inl z⟩
  refine ⟨S.len, fun j p d h => ?_, fun j p l d h => ?_, S.inj, S.apart, fun a z => ?_, fun q hq => ?_⟩
  · obtain ⟨v, a1, a2⟩ := S.va j p d h
    exact ⟨v, a1, Rp.kept k d v a2⟩
  · obtain ⟨a, a1, a2⟩ := S.ow j p l d h
    refine ⟨a, a1, a2.kept k fun u hu => ?_⟩
    rw [upd_ne fun z => S.apart b hz (by rw [← z]; exact ⟨j, p, l, d, h, a1⟩)]
    exact hu
  · by_cases e : a = b
    · subst e
      refine ⟨fun z => (by rw [upd_same] at z; cases z), fun ps z => (by rw [upd_same] at z; exact h1.1 ps (Option.some.inj z)), fun xs z => ?_⟩
      rcases z with z | ⟨q, z⟩
      · rw [upd_same] at z
        exact h1.2.1 xs (Option.some.inj z)
      · rw [upd_same] at z
        exact h1.2.2 q xs (Option.some.inj z)
    · obtain ⟨a1, a2⟩ := S.zin a z
      exact ⟨(by rw [upd_ne e]; exact a1), a2.eq (upd_ne e)⟩
  · obtain ⟨u, hu, n1, n2⟩ := h0
    obtain ⟨ps, e1, e2, e3⟩ := S.tabs q hq
    have nb : q.1 ≠ b := fun z => by rw [z, hu] at e1; exact n1 ps (Option.some.inj e1)
    refine ⟨ps, by rw [upd_ne nb]; exact e1, e2, fun pos cv hc => ?_⟩
    obtain ⟨c, f1, f2⟩ := e3 pos cv hc
    refine ⟨c, f1, ?_⟩
    rw [upd_ne fun z => by rw [z, hu] at f2; exact n2 _ (Option.some.inj f2)]
    exact f2
theorem sim_less (S : SimZ K T Zc r σ H) (h : ∀ a, Z a → Zc a) : SimZ K T Z r σ H := by
  have k : Kept (MuZ Zc r σ) (MuZ Z r σ) H H := Kept.less fun a z => z.elim .inl fun z => .inr (h a z)
  refine ⟨S.len, fun j p d hj => ?_, fun j p l d hj => ?_, S.inj, fun a z => S.apart a (h a z), fun a z => S.zin a (h a z), S.tabs⟩
  · obtain ⟨v, a1, a2⟩ := S.va j p d hj
    exact ⟨v, a1, Rp.kept k d v a2⟩
  · obtain ⟨a, a1, a2⟩ := S.ow j p l d hj
    exact ⟨a, a1, a2.kept k fun _ z => z⟩
mutual
theorem put_out : ∀ {p : Pat} {d : D} {r r' : Env}, put p d r = some r' → r'.length = r.length ∧ (∀ j : Nat, j ∉ pslots p → r'[j]? = r[j]?) ∧ ∀ j : Nat, (∀ (p l : Bool) (d : D), r[j]? ≠ some (.ow p l d)) → ∀ (p l : Bool) (d : D), r'[j]? ≠ some (.ow p l d)
  | .v i, d, r, r', h => by
    have h : store i (.va false d) r = some r' := by simpa only [put] using h
    obtain ⟨e, hi, _⟩ := store_cases h
    subst e
    refine ⟨List.length_set, fun j hj => List.getElem?_set_ne fun z => hj (by rw [z]; simp [pslots]), fun j n p l d' z => ?_⟩
    rcases getSet z with ⟨_, z, _⟩ | ⟨_, z⟩
    · cases z
    · exact n p l d' z
  | .t ps, .tuple ds, r, r', h => by
    have h : puts ps ds r = some r' := by simpa only [put] using h
    have := puts_out h
    simpa only [pslots] using this
  | .t _, .none, _, _, h => by simp only [put] at h; cases h
  | .t _, .bool _, _, _, h => by simp only [put] at h; cases h
  | .t _, .int _, _, _, h => by simp only [put] at h; cases h
  | .t _, .str _, _, _, h => by simp only [put] at h; cases h
  | .t _, .list _, _, _, h => by simp only [put] at h; cases h
  | .t _, .dict _, _, _, h => by simp only [put] at h; cases h
theorem puts_out : ∀ {ps : List Pat} {ds : List D} {r r' : Env}, puts ps ds r = some r' → r'.length = r.length ∧ (∀ j : Nat, j ∉ pslotss ps → r'[j]? = r[j]?) ∧ ∀ j : Nat, (∀ (p l : Bool) (d : D), r[j]? ≠ some (.ow p l d)) → ∀ (p l : Bool) (d : D), r'[j]? ≠ some (.ow p l d)
  | [], [], r, r', h => by
    have h : some r = some r' := by simpa only [puts] using h
    cases h
    exact ⟨rfl, fun _ _ => rfl, fun _ n => n⟩
  | p :: ps, d :: ds, r, r', h => by
    have h : (put p d r).bind (fun r1 => puts ps ds r1) = some r' := by simpa only [puts] using h
    obtain ⟨r1, h1, h2⟩ := bind_some2 h
    obtain ⟨a1, a2, a3⟩ := put_out h1
    obtain ⟨b1, b2, b3⟩ := puts_out h2
    refine ⟨b1.trans a1, fun j hj => ?_, fun j n => b3 j (a3 j n)⟩
    simp only [pslotss, List.mem_append, not_or] at hj
    exact (b2 j hj.2).trans (a2 j hj.1)
  | [], _ :: _, _, _, h => by simp only [puts] at h; cases h
  | _ :: _, [], _, _, h => by simp only [puts] at h; cases h
end
theorem EvE.noOw (S : SimZ K T Z r σ H) (E : EvE K T Z r σ H r1 H1) {j : Nat} (n : ∀ p l d, r[j]? ≠ some (.ow p l d)) : ∀ p l d, r1[j]? ≠ some (.ow p l d) := fun p l d z => by
  have hj : j < r.length := by rw [← E.len S]; exact (List.getElem?_eq_some_iff.mp z).1
  obtain ⟨s', a1, a2⟩ := E.slot j r[j] (List.getElem?_eq_getElem hj)
  rw [z] at a1
  cases a1
  cases e : r[j] with
  | un => rw [e] at a2; cases a2
  | va p d => rw [e] at a2; cases a2
  | ow p l d => exact n p l d (by rw [List.getElem?_eq_getElem hj, e])
theorem lcL_grows {vs : List Nat} {p : Pat} {t : DT} {e : DE} : ∀ (ds : List D) (r : Env) (acc : List D) {xs : List D} {r' : Env}, lcL vs p t e ds r acc = .ok xs r' → acc.length ≤ xs.length
  | [], r, acc, xs, r', h => by
    have h : Out.ok acc.reverse r = .ok xs r' := h
    cases h
    rw [List.length_reverse]
    exact Nat.le_refl _
  | d :: ds, r, acc, xs, r', h => by
    unfold lcL at h
    split at h
    · cases h
    · split at h
      · split at h
        · split at h
          · have := lcL_grows ds _ _ h
            rw [List.length_cons] at this
            omega
          · cases h
        · cases h
      · exact lcL_grows ds _ _ h
      · cases h
theorem lcL_cons {vs : List Nat} {p : Pat} {t : DT} {e : DE} {d : D} {ds : List D} {r : Env} {acc xs : List D} {r' : Env} (h : lcL vs p t e (d :: ds) r acc = .ok xs r') : ∃ r1, put p d (wipeE vs r) = some r1 ∧
    ((∃ r2 x r3 z r4, t r1 = .ok true r2 ∧ e r2 = .ok x r3 ∧ esc r3 x = some (z, r4) ∧ lcL vs p t e ds r4 (z :: acc) = .ok xs r') ∨ ∃ r2, t r1 = .ok false r2 ∧ lcL vs p t e ds r2 acc = .ok xs r') := by
  unfold lcL at h
  split at h
  · cases h
  · rename_i r1 h1
    refine ⟨r1, h1, ?_⟩
    split at h
    · rename_i r2 h2
      split at h
      · rename_i x r3 h3
        split at h
        · rename_i z r4 h4
          exact .inl ⟨r2, x, r3, z, r4, h2, h3, h4, h⟩
        · cases h
      · cases h
    · rename_i r2 h2
      exact .inr ⟨r2, h2, h⟩
    · cases h
end
section
variable {K : PySem.W.Frag} {T : List (Addr × Str)} {Z : Addr → Prop} {r r1 : Env} {σ : L2.St} {H H1 : Hp}
/-- an expression's step behind which a lock falls -/
theorem eve_unlock {lk : Option Nat} (S : SimZ K T Z r σ H) (h : LkOk lk r) (E : EvE K T Z (lock lk r) σ H r1 H1) : EvE K T Z r σ H (unlock lk r1) H1 := by
  cases lk with
  | none => exact E
  | some i =>
    obtain ⟨p, ds, e0⟩ := h i rfl
    have hi : i < r.length := (List.getElem?_eq_some_iff.mp e0).1
    rw [lock_at e0] at E
    obtain ⟨s', a1, a2⟩ := E.slot i _ (List.getElem?_set_self hi)
    have e1 : r1[i]? = some (.ow p true (.list ds)) := by
      rcases a2 with ⟨d', e1, f⟩ | ⟨z, _⟩
      · rw [a1, e1, f rfl]
      · cases z
    have hi1 : i < r1.length := (List.getElem?_eq_some_iff.mp e1).1
    rw [unlock_at e1]
    refine ⟨flag_sim E.sim e1, fun a o ho t n => E.ob a o ho t fun z => n ((flag_mu' e0 a).mp z), E.dom, fun j s hj => ?_⟩
    by_cases ij : i = j
    · subst ij
      rw [e0] at hj
      cases hj
      exact ⟨_, List.getElem?_set_self hi1, SlE.refl _⟩
    · obtain ⟨s', a1, a2⟩ := E.slot j s (by rw [List.getElem?_set_ne ij]; exact hj)
      exact ⟨s', by rw [List.getElem?_set_ne ij]; exact a1, a2⟩
end
/-- tests of a clause -/
theorem PTs.ex {X : Cx} {ifs : List Expr} {ι : Sort _} {t : ι → TT} (h : ∀ z, PTs X ifs (t z)) : PTs X ifs (fun σ H Q => ∃ z, t z σ H Q) := ⟨fun pins s σ H Q I ⟨z, q⟩ => (h z).run pins s σ H Q I q⟩
theorem PE.ex {X : Cx} {e : Expr} {ι : Sort _} {t : ι → TE} (h : ∀ z, PE X e (t z)) : PE X e (fun σ H Q => ∃ z, t z σ H Q) := ⟨fun pins s σ H Q I ⟨z, q⟩ => (h z).run pins s σ H Q I q⟩
theorem PG.ex {X : Cx} {e : Expr} {ι : Sort _} {t : ι → TG} (h : ∀ z, PG X e (t z)) : PG X e (fun v σ H Q => ∃ z, t z v σ H Q) := ⟨fun pins s σ H v u Q I r ⟨z, q⟩ => (h z).run pins s σ H v u Q I r q⟩
theorem sts_nil {X : Cx} {g : G} : PTs X [] (tT g SE.tYes) := ⟨fun pins s σ H Q I ⟨r, S, q⟩ => pts_nil.run pins s σ H Q I (q H (EvE.refl S))⟩
theorem sts_one {X : Cx} {g : G} {c : Expr} {t : DT} (h : PT X c (tT g t)) : PTs X [c] (tT g t) := pts_one h
abbrev noW : WX := fun _ _ _ _ => False
abbrev gB (X : Cx) (T : List (Addr × Str)) (Z : Addr → Prop) : G := ⟨X.K, T, X.mg, noW, Z⟩
section
variable {X : Cx} {T : List (Addr × Str)} {W : WX} {Z : Addr → Prop} {tg iter elt : Expr} {ifs : List Expr} {scope : Scope} {pos : Pos} {it : DI} {p : Pat} {t : DT} {d : DE} {own : List (Str × Nat)}
/-- the reading of a comprehension -/
theorem lc_read (σ : L2.St) (H : Hp) (Q : VK) (vs : List Nat) (hp : ∀ j ∈ pslots p, j ∈ vs) (hv : ∀ j ∈ vs, j < σ.length) (q : tE (gX X T W Z) (dLc vs it p t d) σ H Q) :
    tLc (tI (gX X T W Z) it) (fun v σ H Q => ∃ Z', tG (gB X T Z') p v σ H Q) (fun σ H Q => ∃ Z', tT (gB X T Z') t σ H Q) (fun σ H Q => ∃ Z', tE (gB X T Z') d σ H Q) vs σ H Q := by
  obtain ⟨r, S, q⟩ := q
  refine ⟨r, S, aft_mono (aft_bind q) (fun dl r1 q1 J H1 E1 lko wk => ?_) fun _ _ z => z⟩
  obtain ⟨ds, lk⟩ := dl
  dsimp only at q1 lko wk
  intro Dd hD
  by_cases hno : vs.all (notOw r1) = true
  · rw [if_pos hno] at q1
    have no : ∀ v ∈ vs, ∀ p l d, r1[v]? ≠ some (.ow p l d) := fun v hv => notOw_no (List.all_eq_true.mp hno v hv)
    cases hL : lcL vs p t d ds (wipeE vs (lock lk r1)) [] with
    | bad => rw [hL] at q1; exact q1.elim
    | ex e1 r2 => rw [hL] at q1; exact q1.elim
    | ok xs r2 =>
      rw [hL] at q1
      dsimp only at q1
      by_cases hlim : xs.length ≤ lim
      · rw [if_pos hlim] at q1
        -- the frame when the block begins
        have S1 := lock_sim E1.sim lko
        have no1 : ∀ v ∈ vs, ∀ p l d, (lock lk r1)[v]? ≠ some (.ow p l d) := fun v hv p l d z => by
          cases lk with
          | none => exact no v hv p l d z
          | some i =>
            obtain ⟨p', ds', e0⟩ := lko i rfl
            rw [lock_at e0] at z
            rcases getSet z with ⟨e1, _, _⟩ | ⟨_, z⟩
            · subst e1
              exact no _ hv _ _ _ e0
            · exact no v hv p l d z
        have S2 := wipe_sim S1 no1
        have nZ : ¬ Z Dd := fun z => (E1.sim.zin Dd z).1 hD
        have muL : ∀ a, Mu (wipeE vs (lock lk r1)) (wipe σ vs) a ↔ Mu r1 σ a := fun a => by
          rw [wipe_mu no1]
          cases lk with
          | none => exact Iff.rfl
          | some i =>
            obtain ⟨p', ds', e0⟩ := lko i rfl
            rw [lock_at e0]
            exact flag_mu' e0 a
        have len0 : (wipeE vs (lock lk r1)).length = σ.length := by rw [S2.len, wipe_length]
        refine ⟨fun i m Hk => m = ds.length - i ∧ i ≤ ds.length ∧ ∃ (rk : Env) (acc : List SE.D) (accV : List V), SimZ X.K T (fun b => Z b ∨ b = Dd) (wipeE vs rk) (wipe σ vs) Hk ∧ (∀ a o, H1 a = some o → (∀ ps, o ≠ .tbl ps) → ¬ Mu r1 σ a → Hk a = some o) ∧ (∀ a, Hk a = none → H1 a = none) ∧
          (∀ (i : Nat) (s : Sl), (wipeE vs (lock lk r1))[i]? = some s → ∃ s', (wipeE vs rk)[i]? = some s' ∧ SlE s s') ∧ rk.length = σ.length ∧ Hk Dd = some (.lst accV) ∧ RpL X.K (MuZ (fun b => Z b ∨ b = Dd) (wipeE vs rk) (wipe σ vs)) Hk acc.reverse accV ∧ lcL vs p t d (ds.drop i) rk acc = .ok xs r2, ⟨_, rfl, Nat.zero_le _, wipeE vs (lock lk r1), [], [], ?_⟩, ?_⟩
        · have ex : Ext H1 (upd H1 Dd (.lst [])) := Ext.new hD
          refine ⟨?_, fun a o h _ _ => ex a o h, fun a h => ex.dom h, fun i s h => ⟨s, by rw [wipeE_idem]; exact h, SlE.refl s⟩, by rw [len0], upd_same, RpL.nil, hL⟩
          rw [wipeE_idem]
          exact SimZ.fresh S2 hD ex ⟨by rw [upd_same]; exact fun z => (by cases z), noTb_lst upd_same⟩
        · rintro i m Hk ⟨rfl, hil, rk, acc, accV, C1, C2, C3, C4, C4l, C5, C6, C7⟩
          have muK : ∀ a, Mu (wipeE vs rk) (wipe σ vs) a → Mu r1 σ a := by
            rintro a ⟨j, p', l, d', h1, h2⟩
            refine (muL a).mp ?_
            have hj : j < (wipeE vs (lock lk r1)).length := by
              rw [len0, ← C4l, ← wipeE_len rk vs]
              exact (List.getElem?_eq_some_iff.mp h1).1
            obtain ⟨s', a1, a2⟩ := C4 j _ (List.getElem?_eq_getElem hj)
            rw [h1] at a1
            cases a1
            cases e : (wipeE vs (lock lk r1))[j] with
            | un => rw [e] at a2; cases a2
            | va _ _ => rw [e] at a2; cases a2
            | ow q m d2 => exact ⟨j, q, m, d2, by rw [List.getElem?_eq_getElem hj, e], h2⟩
          obtain ⟨w1, w2⟩ := wk i (MuZ (fun b => Z b ∨ b = Dd) (wipeE vs rk) (wipe σ vs)) Hk C2 (fun a z => by
            rcases z with z | z | z
            · exact .inl (.inl (muK a z))
            · exact .inl (.inr z)
            · exact .inr (by rw [z]; exact hD)) C1.min (fun j p' d' hj => by
            have hb : (lock lk r1)[j]? = some (.ow p' true d') ∧ j ∉ vs := by
              rcases hj with ⟨e1, hj⟩ | hj
              · subst e1
                obtain ⟨p2, ds2, e0⟩ := lko j rfl
                rw [e0] at hj
                cases hj
                rw [lock_at e0]
                exact ⟨List.getElem?_set_self (List.getElem?_eq_some_iff.mp e0).1, fun z => no j z _ _ _ e0⟩
              · refine ⟨?_, fun z => no j z _ _ _ hj⟩
                cases lk with
                | none => exact hj
                | some k =>
                  obtain ⟨p2, ds2, e0⟩ := lko k rfl
                  rw [lock_at e0]
                  by_cases kj : k = j
                  · subst kj
                    rw [e0] at hj
                    cases hj
                  · rw [List.getElem?_set_ne kj]
                    exact hj
            obtain ⟨hb, nj⟩ := hb
            obtain ⟨s', a1, a2⟩ := C4 j _ (by rw [wipeE_out nj]; exact hb)
            have e2 : s' = .ow p' true d' := by
              rcases a2 with ⟨d2, e1, f⟩ | ⟨z, _⟩
              · rw [e1, f rfl]
              · cases z
            rw [e2] at a1
            obtain ⟨a, b1, b2⟩ := C1.ow j p' true _ a1
            exact ⟨a, by rw [← wipe_out nj]; exact b1, b2⟩)
          by_cases hlt : i < ds.length
          · refine .inr ?_
            obtain ⟨go, yl⟩ := w2 ds[i] (List.getElem?_eq_getElem hlt)
            rw [List.drop_eq_getElem_cons hlt] at C7
            obtain ⟨r3, h3, C7⟩ := lcL_cons C7
            obtain ⟨pl, po, pn⟩ := put_out h3
            refine ⟨go, fun H' => ∃ (rk : Env) (acc : List SE.D) (accV : List V), SimZ X.K T (fun b => Z b ∨ b = Dd) (wipeE vs rk) (wipe σ vs) H' ∧ (∀ a o, H1 a = some o → (∀ ps, o ≠ .tbl ps) → ¬ Mu r1 σ a → H' a = some o) ∧ (∀ a, H' a = none → H1 a = none) ∧
              (∀ (i : Nat) (s : Sl), (wipeE vs (lock lk r1))[i]? = some s → ∃ s', (wipeE vs rk)[i]? = some s' ∧ SlE s s') ∧ rk.length = σ.length ∧ H' Dd = some (.lst accV) ∧ RpL X.K (MuZ (fun b => Z b ∨ b = Dd) (wipeE vs rk) (wipe σ vs)) H' acc.reverse accV ∧ lcL vs p t d (ds.drop (i + 1)) rk acc = .ok xs r2,
              fun H' ⟨rk, acc, accV, z⟩ => ⟨_, by omega, rfl, hlt, rk, acc, accV, z⟩, fun x H' y => ?_⟩
            obtain ⟨ex, rp⟩ := yl x H' y
            have Cx := C1.ext ex
            refine ⟨_, wipeE vs rk, ds[i], r3, Cx, rp, h3, fun σ2 F2 ag => ?_⟩
            have ws : wipe σ2 vs = wipe σ vs := wipe_agree hp ag
            refine ⟨ws, ?_⟩
            have no3 : ∀ v ∈ vs, ∀ p l d, r3[v]? ≠ some (.ow p l d) := fun v hv' => pn v fun p' l d' z => by
              rw [wipeE_in (by rw [C4l]; exact hv v hv') hv'] at z
              cases z
            -- what goes on from r3 to a later frame, to the next turn
            have next : ∀ {r4 : Env} {H4 : Hp}, EvE X.K T (fun b => Z b ∨ b = Dd) r3 σ2 H' r4 H4 → (SimZ X.K T (fun b => Z b ∨ b = Dd) (wipeE vs r4) (wipe σ vs) H4) ∧ (∀ a o, H1 a = some o → (∀ ps, o ≠ .tbl ps) → ¬ Mu r1 σ a → H4 a = some o) ∧ (∀ a, H4 a = none → H1 a = none) ∧
                (∀ (i : Nat) (s : Sl), (wipeE vs (lock lk r1))[i]? = some s → ∃ s', (wipeE vs r4)[i]? = some s' ∧ SlE s s') ∧ r4.length = σ.length ∧ H4 Dd = some (.lst accV) ∧ RpL X.K (MuZ (fun b => Z b ∨ b = Dd) (wipeE vs r4) (wipe σ vs)) H4 acc.reverse accV := fun {r4 H4} E4 => by
              have no4 : ∀ v ∈ vs, ∀ p l d, r4[v]? ≠ some (.ow p l d) := fun v hv => EvE.noOw F2.sim E4 (no3 v hv)
              have mu3 : ∀ a, Mu r3 σ2 a → Mu (wipeE vs rk) (wipe σ vs) a := by
                rintro a ⟨j, p', l, d', m1, m2⟩
                have nj : j ∉ vs := fun z => no3 j z p' l d' m1
                have nj' : j ∉ pslots p := fun z => nj (hp j z)
                rw [po j nj'] at m1
                rw [ag.2 j nj'] at m2
                exact ⟨j, p', l, d', m1, m2⟩
              have mu4 : ∀ a, Mu (wipeE vs r4) (wipe σ vs) a → Mu (wipeE vs rk) (wipe σ vs) a := fun a m => by
                rw [← ws] at m
                exact mu3 a (E4.mu F2.sim a ((wipe_mu no4 a).mp m))
              refine ⟨by rw [← ws]; exact wipe_sim E4.sim no4, fun a o ho tb n => E4.ob a o (ex a o (C2 a o ho tb n)) tb fun z => n (muK a (mu3 a z)), fun a z => C3 a (ex.dom (E4.dom a z)), fun i s hs => ?_, ?_, ?_, ?_⟩
              · have hi : i < rk.length := by
                  rw [C4l, ← len0]
                  exact (List.getElem?_eq_some_iff.mp hs).1
                by_cases iv : i ∈ vs
                · have e0 : s = .un := by
                    have hl : i < (lock lk r1).length := by rw [S1.len, ← C4l]; exact hi
                    rw [wipeE_in hl iv] at hs
                    exact (Option.some.inj hs).symm
                  subst e0
                  refine ⟨.un, wipeE_in ?_ iv, rfl⟩
                  rw [E4.len F2.sim, pl, wipeE_len]
                  exact hi
                · obtain ⟨s1, a1, a2⟩ := C4 i s hs
                  have a3 : r3[i]? = some s1 := by rw [po i fun z => iv (hp i z)]; exact a1
                  obtain ⟨s2, a4, a5⟩ := E4.slot i s1 a3
                  exact ⟨s2, by rw [wipeE_out iv]; exact a4, a2.trans a5⟩
              · rw [E4.len F2.sim, pl, wipeE_len, C4l]
              · exact E4.ob Dd _ (ex Dd _ C5) (fun ps z => by cases z) fun z => F2.sim.apart Dd (.inr rfl) z
              · exact RpL.kept ⟨fun a o ho tb n => E4.ob a o (ex a o ho) tb fun z => n (.inl (mu3 a z)), fun a z => z.elim (fun z => .inl (.inl (mu4 a z))) fun z => .inl (.inr z)⟩ _ _ C6
            rcases C7 with ⟨r4, x4, r5, z, r6, g1, g2, g3, g4⟩ | ⟨r4, g1, g2⟩
            · refine ⟨_, r3, F2.sim, ?_⟩
              rw [g1]
              intro H3 E3
              rw [if_pos rfl]
              refine ⟨_, r4, E3.sim, ?_⟩
              rw [g2]
              intro y H4 E4 R4
              obtain ⟨E5, rpz⟩ := esc_ok E4.sim (R4.holds E3.sim E4) g3
              have E345 := (E3.trans F2.sim E4).trans F2.sim E5
              obtain ⟨n1, n2, n3, n4, n5, n6, n7⟩ := next E345
              have no6 : ∀ v ∈ vs, ∀ p l d, r6[v]? ≠ some (.ow p l d) := fun v hv => EvE.noOw F2.sim E345 (no3 v hv)
              have hlen : accV.length < sizeLine := by
                have a1 := n7.length
                rw [List.length_reverse] at a1
                have a2 := lcL_grows _ _ _ g4
                rw [List.length_cons] at a2
                rw [← lim_eq]
                omega
              have kU : Kept (MuZ (fun b => Z b ∨ b = Dd) (wipeE vs r6) (wipe σ vs)) (MuZ (fun b => Z b ∨ b = Dd) (wipeE vs r6) (wipe σ vs)) H4 (upd H4 Dd (.lst (accV ++ [y]))) := ⟨fun a o ho _ n => by rw [upd_ne fun z => n (.inr (.inr z))]; exact ho, fun a z => .inl z⟩
              refine ⟨accV, n6, hlen, r6, z :: acc, accV ++ [y], ?_, fun a o ho tb n => ?_, fun a ha => ?_, n4, n5, upd_same, ?_, g4⟩
              · exact sim_upd n1 (.inr rfl) ⟨_, n6, fun ps z => (by cases z), fun φ z => by cases z⟩ ⟨fun ps z => (by cases z), fun xs z => (by cases z), fun q xs z => by cases z⟩
              · rw [upd_ne (ne_of_none ho hD)]
                exact n2 a o ho tb n
              · by_cases e : a = Dd
                · rw [e, upd_same] at ha
                  cases ha
                · rw [upd_ne e] at ha
                  exact n3 a ha
              · rw [List.reverse_cons]
                refine RpL.append (RpL.kept kU _ _ n7) (RpL.cons (Rp.kept kU _ _ (Rp.kept (Kept.less fun a z => ?_) _ _ rpz)) RpL.nil)
                rcases z with z | z
                · rw [← ws] at z
                  exact .inl ((wipe_mu no6 a).mp z)
                · exact .inr z
            · refine ⟨_, r3, F2.sim, ?_⟩
              rw [g1]
              intro H3 E3
              rw [if_neg Bool.false_ne_true]
              obtain ⟨n1, n2, n3, n4, n5, n6, n7⟩ := next E3
              exact ⟨r4, acc, accV, n1, n2, n3, n4, n5, n6, n7, g2⟩
          · have ei : i = ds.length := by omega
            refine .inl ⟨w1 ei, ?_⟩
            rw [ei, List.drop_length] at C7
            have C7 : Out.ok acc.reverse rk = Out.ok xs r2 := C7
            cases C7
            have lkv : ∀ v ∈ vs, r1[v]? = (lock lk r1)[v]? := fun v hv' => by
              cases lk with
              | none => rfl
              | some k =>
                obtain ⟨p2, ds2, e0⟩ := lko k rfl
                rw [lock_at e0, List.getElem?_set_ne]
                intro z
                subst z
                exact no _ hv' _ _ _ e0
            have lr1 : r2.length = r1.length := by rw [C4l, ← E1.sim.len]
            have bin : ∀ v ∈ vs, (backE r1 vs r2)[v]? = r1[v]? := fun v hv' => backE_in lr1 (by rw [E1.sim.len]; exact hv v hv') hv'
            have bow : ∀ (j : Nat) (p' l : Bool) (d' : SE.D), (backE r1 vs r2)[j]? = some (.ow p' l d') → j ∉ vs ∧ (wipeE vs r2)[j]? = some (.ow p' l d') := fun j p' l d' h => by
              have nj : j ∉ vs := fun z => by
                rw [bin j z] at h
                exact no j z _ _ _ h
              exact ⟨nj, by rw [wipeE_out nj, ← backE_out nj (r0 := r1)]; exact h⟩
            have muG : ∀ a, Mu (backE r1 vs r2) σ a → Mu (wipeE vs r2) (wipe σ vs) a := by
              rintro a ⟨j, p', l, d', m1, m2⟩
              obtain ⟨nj, m1⟩ := bow j p' l d' m1
              exact ⟨j, p', l, d', m1, by rw [wipe_out nj]; exact m2⟩
            have kG : Kept (MuZ (fun b => Z b ∨ b = Dd) (wipeE vs r2) (wipe σ vs)) (MuZ (fun b => Z b ∨ b = Dd) (backE r1 vs r2) σ) Hk Hk := Kept.less fun a z => z.elim (fun z => .inl (muG a z)) .inr
            have kO : Kept (MuZ Z r1 σ) (MuZ (fun b => Z b ∨ b = Dd) (backE r1 vs r2) σ) H1 Hk := ⟨fun a o ho tb n => C2 a o ho tb fun z => n (.inl z), fun a z => by
              rcases z with z | z | z
              · exact .inl (.inl (muK a (muG a z)))
              · exact .inl (.inr z)
              · exact .inr (by rw [z]; exact hD)⟩
            have SG : SimZ X.K T (fun b => Z b ∨ b = Dd) (backE r1 vs r2) σ Hk := by
              refine ⟨by rw [backE_len, C4l], fun j p' d' hj => ?_, fun j p' l d' hj => ?_, fun j j' p' q' l l' d1 d2 a h1 h2 h3 h4 => ?_, fun a z m => C1.apart a z (muG a m), C1.zin, C1.tabs⟩
              · by_cases jv : j ∈ vs
                · rw [bin j jv] at hj
                  obtain ⟨v, a1, a2⟩ := E1.sim.va j p' d' hj
                  exact ⟨v, a1, Rp.kept kO _ _ a2⟩
                · rw [backE_out jv] at hj
                  obtain ⟨v, a1, a2⟩ := C1.va j p' d' (by rw [wipeE_out jv]; exact hj)
                  rw [wipe_out jv] at a1
                  exact ⟨v, a1, Rp.kept kG _ _ a2⟩
              · obtain ⟨nj, hj⟩ := bow j p' l d' hj
                obtain ⟨a, a1, a2⟩ := C1.ow j p' l d' hj
                rw [wipe_out nj] at a1
                exact ⟨a, a1, a2.kept kG fun _ z => z⟩
              · obtain ⟨n1, h1⟩ := bow j _ _ _ h1
                obtain ⟨n2, h2⟩ := bow j' _ _ _ h2
                exact C1.inj j j' _ _ _ _ _ _ a h1 h2 (by rw [wipe_out n1]; exact h3) (by rw [wipe_out n2]; exact h4)
            have EG : EvE X.K T Z (lock lk r1) σ H1 (backE r1 vs r2) Hk := by
              refine ⟨sim_less SG fun a z => .inl z, fun a o ho tb n => C2 a o ho tb fun z => n ?_, C3, fun j s hj => ?_⟩
              · cases lk with
                | none => exact z
                | some k =>
                  obtain ⟨p2, ds2, e0⟩ := lko k rfl
                  rw [lock_at e0]
                  exact (flag_mu' e0 a).mpr z
              · by_cases jv : j ∈ vs
                · exact ⟨s, by rw [bin j jv, lkv j jv]; exact hj, SlE.refl s⟩
                · obtain ⟨s', a1, a2⟩ := C4 j s (by rw [wipeE_out jv]; exact hj)
                  rw [wipeE_out jv] at a1
                  exact ⟨s', by rw [backE_out jv]; exact a1, a2⟩
            have EU := eve_unlock E1.sim lko EG
            refine q1 _ Hk (E1.trans S EU) ?_
            have un : SimZ X.K T (fun b => Z b ∨ b = Dd) (unlock lk (backE r1 vs r2)) σ Hk ∧ ∀ a, Mu (unlock lk (backE r1 vs r2)) σ a → Mu (backE r1 vs r2) σ a := by
              cases lk with
              | none => exact ⟨SG, fun _ z => z⟩
              | some k =>
                obtain ⟨p2, ds2, e0⟩ := lko k rfl
                obtain ⟨s', a1, a2⟩ := EG.slot k _ (by rw [lock_at e0]; exact List.getElem?_set_self (List.getElem?_eq_some_iff.mp e0).1)
                have e1 : (backE r1 vs r2)[k]? = some (.ow p2 true (.list ds2)) := by
                  rcases a2 with ⟨d2, e2, f⟩ | ⟨z, _⟩
                  · rw [a1, e2, f rfl]
                  · cases z
                rw [unlock_at e1]
                exact ⟨flag_sim SG e1, fun a z => (flag_mu' e1 a).mp z⟩
            exact ⟨Dd, rfl, E1.dom Dd hD, un.1, accV, C5, RpL.kept (Kept.less fun a z => z.elim (fun z => .inl (muG a (un.2 a z))) .inr) _ _ C6⟩
      · rw [if_neg hlim] at q1; exact q1.elim
  · rw [if_neg hno] at q1; exact q1.elim
end
end SE
set_option Elab.async false
set_option linter.all false
set_option maxRecDepth 100000
set_option maxHeartbeats 1000000
namespace SE
open PySem L2
theorem OpR.best {X : Cx} {f : Value → Value → Sem Value} {r' : R2} (k : ∀ x y H Q, r' x y H Q → ∃ r, OpR X f r ∧ r x y H Q) : OpR X f r' := fun pins s σ H x y v u Q I a b h => by
  obtain ⟨r, h1, h2⟩ := k x y H Q h
  exact h1 pins s σ H x y v u Q I a b h2
theorem IxR.best {X : Cx} {r' : R2} (k : ∀ x y H Q, r' x y H Q → ∃ r, IxR X r ∧ r x y H Q) : IxR X r' := fun va sl pins s σ H x y v u Q I a b h => by
  obtain ⟨r, h1, h2⟩ := k x y H Q h
  exact h1 va sl pins s σ H x y v u Q I a b h2
theorem UnR.best {X : Cx} {f : Value → Sem Value} {r' : V → Hp → VK → Prop} (k : ∀ x H Q, r' x H Q → ∃ r, UnR X f r ∧ r x H Q) : UnR X f r' := fun pins s σ H x v Q I a h => by
  obtain ⟨r, h1, h2⟩ := k x H Q h
  exact h1 pins s σ H x v Q I a h2
theorem CallR.best {X : Cx} {f : Value} {r' : List V → Hp → VK → Prop} (k : ∀ xs H Q, r' xs H Q → ∃ r, CallR X f r ∧ r xs H Q) : CallR X f r' := fun pins s σ H xs us Q I a h => by
  obtain ⟨r, h1, h2⟩ := k xs H Q h
  exact h1 pins s σ H xs us Q I a h2
theorem SlR.best {X : Cx} {r' : V → Option Int → Option Int → Hp → VK → Prop} (k : ∀ x lo hi H Q, r' x lo hi H Q → ∃ r, SlR X r ∧ r x lo hi H Q) : SlR X r' := fun pins s σ H x v vl vu lo hi sl Q I a b c d h => by
  obtain ⟨r, h1, h2⟩ := k x lo hi H Q h
  exact h1 pins s σ H x v vl vu lo hi sl Q I a b c d h2
theorem MtR.best {X : Cx} {f : String} {r' : V → List V → Hp → VK → Prop} (k : ∀ x xs H Q, r' x xs H Q → ∃ r, MtR X f r ∧ r x xs H Q) : MtR X f r' := fun pins s σ H x xs v us Q I a b h => by
  obtain ⟨r, h1, h2⟩ := k x xs H Q h
  exact h1 pins s σ H x xs v us Q I a b h2

section
variable {K : PySem.W.Frag} {M : Addr → Prop} {H : Hp} {v : V}
theorem rpi_int {i : Int} (h : RpI K M H (.int i) v) : v = .int i := by simpa only [RpI, Rp] using h
theorem rpi_bool {i : Bool} (h : RpI K M H (.bool i) v) : v = .bl i := by simpa only [RpI, Rp] using h
theorem rpi_str {i : Str} (h : RpI K M H (.str i) v) : v = .str i := by simpa only [RpI, Rp] using h
theorem rpi_none (h : RpI K M H .none v) : v = .non := by simpa only [RpI, Rp] using h
theorem nw_int {H' : Hp} {i : Int} : NewR K M H H' (.va (.int i)) (.int i) := by simp only [NewR, Rp]
theorem nw_bool {H' : Hp} {i : Bool} : NewR K M H H' (.va (.bool i)) (.bl i) := by simp only [NewR, Rp]
theorem nw_str {H' : Hp} {i : Str} : NewR K M H H' (.va (.str i)) (.str i) := by simp only [NewR, Rp]
theorem nw_none {H' : Hp} : NewR K M H H' (.va .none) .non := by simp only [NewR, Rp]
theorem Kept.new {p : Addr} {o : HO} {M' : Addr → Prop} (h : H p = none) (hm : ∀ a, M' a → M a ∨ a = p) : Kept M M' H (upd H p o) :=
  ⟨fun a u e _ _ => by rw [upd_ne (ne_of_none e h)]; exact e, fun a z => (hm a z).elim .inl fun z => .inr (by rw [z]; exact h)⟩
/-- a new list -/
theorem nw_list {p : Addr} {ds : List D} {vs : List V} (h : H p = none) (r : RpL K M H ds vs) : NewR K M H (upd H p (.lst vs)) (.nw (.list ds)) (.ref p) :=
  ⟨p, rfl, h, vs, upd_same, RpL.kept (Kept.new h fun _ z => z) ds vs r⟩
/-- a new tuple -/
theorem nw_tup {p : Addr} {ds : List D} {vs : List V} (m : MIn M H) (h : H p = none) (r : RpL K M H ds vs) : NewR K M H (upd H p (.tup vs)) (.va (.tuple ds)) (.ref p) := by
  simp only [NewR, Rp]
  exact ⟨p, vs, rfl, .inl ⟨.inl upd_same, fun z => (m p z).1 h⟩, RpL.kept (Kept.new h fun _ z => .inl z) ds vs r⟩
/-- a tuple that stands -/
theorem nw_same {p : Addr} {ds : List D} {vs : List V} (m : MIn M H) (h : SqT K H p vs) (r : RpL K M H ds vs) : NewR K M H H (.va (.tuple ds)) (.ref p) := by
  simp only [NewR, Rp]
  exact ⟨p, vs, rfl, h.elim (fun h => .inl ⟨h, fun z => (m p z).2.2 vs h⟩) .inr, r⟩
theorem sizeLim {n : Nat} (h : n ≤ lim) : n ≤ sizeLine := by rw [← lim_eq]; exact h
end
section
variable {X : Cx}
/-- lists that are read are joined -/
theorem op_catL : OpR X (binaryOp .Add) (fun x y H Q => ∃ l b xs zs, x = .ref l ∧ y = .ref b ∧ SqL X.K H l xs ∧ SqL X.K H b zs ∧ xs.length + zs.length ≤ sizeLine ∧ ∀ p, H p = none → Q (.ref p) (upd H p (.lst (xs ++ zs)))) := by
  rintro pins s σ H x y v u Q I rx ry ⟨l, b, xs, zs, rfl, rfl, hx, hz, hs, q⟩
  obtain ⟨its, r1, ⟨⟨c1, d1, u1, s1⟩, n1, g1, k1, k2, k3⟩, w1⟩ := I.list hx
  obtain ⟨its2, r2, ⟨⟨c2, d2, u2, s2⟩, n2, g2, m1, m2, m3⟩, w2⟩ := I.list hz
  cases rx
  cases ry
  simp only at k1 k2 k3 m1 m2 m3
  subst k1 k2 k3 m1 m2 m3
  have e1 := Vals.length r1
  have e2 := Vals.length r2
  refine concat_meets ⟨_, g1, rfl⟩ ⟨_, g2, rfl⟩ noFill_list_add seq_list_add F.slot_list_add F.entry_list_add (F.args_list_add_2 (.ref l) (.ref b))
    (PyProof.Rows.list_addW l b its.toArray its2.toArray n1 n2 none none s1 s2 (by rw [List.size_toArray, List.size_toArray, ← e1, ← e2]; exact hs)) ⟨g1, g2, ?_⟩
  have ea : its.toArray ++ its2.toArray = (its ++ its2).toArray := by simp
  rw [ea]
  exact ⟨.ref s.heap.objs.size, _, I.lnew (Vals.append r1 r2) (by rw [List.length_append]; exact hs), rfl, q _ I.fresh⟩
def fAdd : D → D → Option R
  | .int i, .int j => some (.va (.int (i + j)))
  | .str a, .str b => if a.length + b.length ≤ lim then some (.va (.str (a ++ b))) else none
  | .list xs, .list ys => if xs.length + ys.length ≤ lim then some (.nw (.list (xs ++ ys))) else none
  | .tuple xs, .tuple ys => if xs.length + ys.length ≤ lim then some (.va (.tuple (xs ++ ys))) else none
  | _, _ => none
theorem ite_some {α : Type} {c : Prop} [Decidable c] {a b : α} (h : (if c then some a else none) = some b) : c ∧ a = b := by
  by_cases hc : c
  · rw [if_pos hc] at h
    exact ⟨hc, Option.some.inj h⟩
  · rw [if_neg hc] at h; cases h
theorem op_add' : OpR X (binaryOp .Add) (rD X.K fAdd) := OpR.best fun x y H Q h => by
  obtain ⟨M, u, v, q, m, hu, hv, hf, k⟩ := h
  unfold fAdd at hf
  split at hf
  · cases hf
    refine ⟨_, op_add, _, _, rpi_int hu, rpi_int hv, ?_⟩
    exact k _ H (Ext.refl H) nw_int
  · obtain ⟨hl, e⟩ := ite_some hf
    subst e
    refine ⟨_, op_add_str, _, _, rpi_str hu, rpi_str hv, sizeLim hl, ?_⟩
    exact k _ H (Ext.refl H) nw_str
  · obtain ⟨hl, e⟩ := ite_some hf
    subst e
    obtain ⟨a, vs, e1, l1, r1⟩ := hu
    obtain ⟨b, ws, e2, l2, r2⟩ := hv
    refine ⟨_, op_catL, a, b, vs, ws, e1, e2, l1, l2, by rw [← r1.length, ← r2.length]; exact sizeLim hl, fun p hp => ?_⟩
    exact k _ _ (Ext.new hp) (nw_list hp (r1.append r2))
  · obtain ⟨hl, e⟩ := ite_some hf
    subst e
    obtain ⟨a, vs, e1, l1, r1⟩ := hu
    obtain ⟨b, ws, e2, l2, r2⟩ := hv
    have n1 := r1.length
    have n2 := r2.length
    refine ⟨_, op_catA, a, b, vs, ws, e1, e2, l1, l2, by rw [← n1, ← n2]; exact sizeLim hl, fun z => ?_, fun z1 z2 => ?_, fun _ _ p hp => ?_⟩
    · subst z
      have : ∀ {ds : List D}, ds.length = ([] : List V).length → ds = [] := fun h => List.length_eq_zero_iff.mp h
      rename_i xs ys
      have e0 := this n1
      subst e0
      exact k _ H (Ext.refl H) (nw_same m l2 (by simpa using r2))
    · subst z2
      rename_i xs ys
      have e0 : ys = [] := List.length_eq_zero_iff.mp n2
      subst e0
      exact k _ H (Ext.refl H) (nw_same m l1 (by simpa using r1))
    · exact k _ _ (Ext.new hp) (nw_tup m hp (r1.append r2))
  · cases hf
def fII (f : Int → Int → Option Int) : D → D → Option R
  | .int i, .int j => (f i j).map fun k => .va (.int k)
  | _, _ => none
def fSub : D → D → Option R := fII fun i j => some (i - j)
theorem op_ii {f : Int → Int → Option Int} {fn : Value → Value → Sem Value} (h : ∀ i j k, f i j = some k → ∃ r, OpR X fn r ∧ ∀ H Q, Q (.int k) H → r (.int i) (.int j) H Q) : OpR X fn (rD X.K (fII f)) := OpR.best fun x y H Q hh => by
  obtain ⟨M, u, v, q, m, hu, hv, hf, k⟩ := hh
  unfold fII at hf
  split at hf
  · rename_i i j
    cases he : f i j with
    | none => rw [he] at hf; cases hf
    | some n =>
      rw [he] at hf
      cases hf
      obtain ⟨r, h1, h2⟩ := h i j n he
      have e1 := rpi_int hu
      have e2 := rpi_int hv
      subst e1 e2
      exact ⟨r, h1, h2 H Q (k _ H (Ext.refl H) nw_int)⟩
  · cases hf
theorem op_sub' : OpR X (binaryOp .Sub) (rD X.K fSub) := op_ii fun i j k e => by
  cases e
  exact ⟨_, op_sub, fun H Q q => ⟨_, _, rfl, rfl, q⟩⟩
def mulOk (i j : Int) : Bool := decide (i.natAbs < 18446744073709551616) || decide (j.natAbs < 18446744073709551616) || decide (i.natAbs.log2 + j.natAbs.log2 < 1000000)
def iMul (i j : Int) : Option Int := if mulOk i j = true then some (i * j) else none
theorem op_mulI : OpR X (binaryOp .Mult) (rD X.K (fII iMul)) := op_ii fun i j k e => by
  obtain ⟨hc, e⟩ := ite_some e
  subst e
  unfold mulOk at hc
  simp only [Bool.or_eq_true, decide_eq_true_eq] at hc
  rcases hc with (hc | hc) | hc
  · exact ⟨_, op_mul, fun H Q q => ⟨_, _, rfl, rfl, .inl ⟨by omega, by omega⟩, q⟩⟩
  · exact ⟨_, op_mul, fun H Q q => ⟨_, _, rfl, rfl, .inr ⟨by omega, by omega⟩, q⟩⟩
  · exact ⟨_, op_mulW, fun H Q q => ⟨_, _, rfl, rfl, hc, q⟩⟩
def iFdiv (i j : Int) : Option Int := if j ≠ 0 ∧ j.natAbs < 1073741824 then some (i.fdiv j) else if 0 < j ∧ j.natAbs.log2 < 9000 then some (i.fdiv j) else none
def fFdiv : D → D → Option R := fII iFdiv
theorem op_fdiv' : OpR X (binaryOp .FloorDiv) (rD X.K fFdiv) := op_ii fun i j k e => by
  unfold iFdiv at e
  split at e
  · rename_i hc
    cases e
    exact ⟨_, op_fdivN, fun H Q q => ⟨_, _, rfl, rfl, hc, q⟩⟩
  · obtain ⟨hc, e⟩ := ite_some e
    subst e
    refine ⟨_, op_fdivW, fun H Q q => ⟨_, _, rfl, rfl, hc, ?_⟩⟩
    have e := Int.fdiv_eq_ediv_of_nonneg i (b := j) (by omega)
    show Q (.int (i / j)) H
    rw [← e]
    exact q
def iMod (i j : Int) : Option Int := if j ≠ 0 then some (i.fmod j) else none
def fMod : D → D → Option R := fII iMod
theorem op_mod' : OpR X (binaryOp .Mod) (rD X.K fMod) := op_ii fun i j k e => by
  obtain ⟨hc, e⟩ := ite_some e
  subst e
  exact ⟨_, op_modN, fun H Q q => ⟨_, _, rfl, rfl, hc, q⟩⟩
def iPow (i j : Int) : Option Int := if 0 ≤ j ∧ j ≤ 1000000 ∧ i.natAbs < 18446744073709551616 then some (i ^ j.toNat) else none
def fPow : D → D → Option R := fII iPow
theorem op_pow' : OpR X (binaryOp .Pow) (rD X.K fPow) := op_ii fun i j k e => by
  obtain ⟨hc, e⟩ := ite_some e
  subst e
  exact ⟨_, op_pow, fun H Q q => ⟨_, _, rfl, rfl, hc, q⟩⟩
def iShl (i j : Int) : Option Int := if 0 ≤ j ∧ j ≤ 1000000 ∧ i.natAbs < 18446744073709551616 then some (i * 2 ^ j.toNat) else none
def fShl : D → D → Option R := fII iShl
theorem op_shl' : OpR X (binaryOp .LShift) (rD X.K fShl) := op_ii fun i j k e => by
  obtain ⟨hc, e⟩ := ite_some e
  subst e
  exact ⟨_, op_shl, fun H Q q => ⟨_, _, rfl, rfl, hc, q⟩⟩
def iShr (i j : Int) : Option Int := if 0 ≤ j then some (i / 2 ^ j.toNat) else none
def fShr : D → D → Option R := fII iShr
theorem op_shr' : OpR X (binaryOp .RShift) (rD X.K fShr) := op_ii fun i j k e => by
  obtain ⟨hc, e⟩ := ite_some e
  subst e
  exact ⟨_, op_shr, fun H Q q => ⟨_, _, rfl, rfl, hc, q⟩⟩
def fAnd : D → D → Option R := fII fun i j => some (Builtin.bitAnd i j)
theorem op_and' : OpR X (binaryOp .BitAnd) (rD X.K fAnd) := op_ii fun i j k e => by
  cases e
  exact ⟨_, op_and, fun H Q q => ⟨_, _, rfl, rfl, q⟩⟩
def fXor : D → D → Option R := fII fun i j => some (Builtin.bitXor i j)
theorem op_xor' : OpR X (binaryOp .BitXor) (rD X.K fXor) := op_ii fun i j k e => by
  cases e
  exact ⟨_, op_xor, fun H Q q => ⟨_, _, rfl, rfl, q⟩⟩
def fNeg : D → Option R
  | .int i => some (.va (.int (-i)))
  | _ => none
theorem un_neg' : UnR X (unaryOp .USub) (rD1 X.K fNeg) := UnR.best fun x H Q h => by
  obtain ⟨M, u, q, m, hu, hf, k⟩ := h
  unfold fNeg at hf
  split at hf
  · cases hf
    exact ⟨_, un_neg, _, rpi_int hu, k _ H (Ext.refl H) nw_int⟩
  · cases hf
end
theorem tuple_mul1 (l : Addr) (items : Array Value) (n : Nat) (dd : Option Addr) (sl : Array (Option Value)) (x : Int) (u : Tok)
  (c0 : (decide (x < -2 ^ 63) || decide (x ≥ 2 ^ 63)) = false) (c1 : (items.isEmpty || x == 1) = true) :
  Meets (Builtin.«tuple.__mul__» { pos := [Value.ref l, Value.int x u] }) fun x_1 R s =>
    s.heap.get? l = some { cls := Value.type "tuple", dict := dd, data := Data.seq items n, slots := sl } ∧
      R (Except.ok (Flow.ret (Value.ref l))) s := by
  refine Meets.of_wp fun prog w A R s h => ?_
  obtain ⟨hp, g, d, tk, os⟩ := s
  obtain ⟨hl, h⟩ := h
  have f1 := AutoSeq1.idx_int
  unfold Builtin.«tuple.__mul__»
  refine wpAny_ite_false (decide_eq_false (by rw [c0]; exact Bool.false_ne_true)) ?_
  refine wpAny_bind ?_

  refine wpAny_bind (wpAny_bind (wpAny_load' hl (wpAny_pure (wpAny_pure ?_))))
  refine wpAny_ite_true (decide_eq_true c1) ?_
  refine wpAny_bind (wpAny_bind (wpAny_typeOf ⟨_, hl, rfl⟩ (wpAny_pure ?_)))
  refine wpAny_ite_true rfl ?_
  refine wpAny_bind (wpAny_rule ?_)
  exact wpAny_pure ⟨_, rfl, h⟩
theorem tuple_mul0 (l : Addr) (items : Array Value) (n : Nat) (dd : Option Addr) (sl : Array (Option Value)) (x : Int) (u : Tok)
  (c0 : (decide (x < -2 ^ 63) || decide (x ≥ 2 ^ 63)) = false) (c1 : (items.isEmpty || x == 1) = false) (c2 : x ≤ 0) :
  Meets (Builtin.«tuple.__mul__» { pos := [Value.ref l, Value.int x u] }) fun x_1 R s =>
    s.heap.get? l = some { cls := Value.type "tuple", dict := dd, data := Data.seq items n, slots := sl } ∧
      R (Except.ok (Flow.ret (Value.ref s.heap.objs.size))) { heap := s.heap.push { cls := Value.type "tuple", data := Data.seq #[] }, gens := s.gens, drawn := s.drawn, toks := s.toks, os := s.os } := by
  refine Meets.of_wp fun prog w A R s h => ?_
  obtain ⟨hp, g, d, tk, os⟩ := s
  obtain ⟨hl, h⟩ := h
  have f1 := AutoSeq1.idx_int
  unfold Builtin.«tuple.__mul__»
  refine wpAny_ite_false (decide_eq_false (by rw [c0]; exact Bool.false_ne_true)) ?_
  refine wpAny_bind ?_

  refine wpAny_bind (wpAny_bind (wpAny_load' hl (wpAny_pure (wpAny_pure ?_))))
  refine wpAny_ite_false (decide_eq_false (by rw [c1]; exact Bool.false_ne_true)) ?_
  refine wpAny_ite_true (decide_eq_true (by simp [c2])) ?_

  refine wpAny_bind (wpAny_bind (wpAny_alloc' (wpAny_pure ?_)))
  exact wpAny_pure ⟨_, rfl, h⟩

section
variable {X : Cx}
theorem op_repL : OpR X (binaryOp .Mult) (fun x y H Q => ∃ l k xs, x = .ref l ∧ y = .int k ∧ SqL X.K H l xs ∧ (-(2 ^ 63) ≤ k ∧ k < 2 ^ 63) ∧ xs.length * k.toNat ≤ sizeLine ∧ ∀ p, H p = none → Q (.ref p) (upd H p (.lst (List.replicate k.toNat xs).flatten))) := by
  rintro pins s σ H x y v u Q I rx ry ⟨l, k, xs, rfl, rfl, hx, hk, hs, q⟩
  obtain ⟨its, r1, ⟨⟨c1, d1, u1, s1⟩, n1, g1, k1, k2, k3⟩, w1⟩ := I.list hx
  cases rx
  obtain ⟨t, rfl⟩ := ry
  simp only at k1 k2 k3
  subst k1 k2 k3
  have e1 := Vals.length r1
  have hz : sizeLine = 16777216 := by decide
  have hsz : its.toArray.size = xs.length := by rw [List.size_toArray, ← e1]
  refine wpAny_binaryOp_repeat_ref (by decide) ⟨_, g1, rfl⟩ (fun s' => typeIs_int s' k t) noFill_list_mul F.fills_int_mul F.slot_int_rmul repeat_list F.slot_int_index.lookup
    (call_meets F.slot_int_rmul (typeIs_int s k t) F.entry_int_rmul (F.args_int_rmul_2 (.int k t) (.ref l)) (lm_int_rmul_list_any k t l its.toArray n1 none s1) ⟨g1, rfl, ⟨_, g1, rfl⟩, ?_⟩)
  refine call_meets F.slot_list_mul ⟨_, g1, rfl⟩ F.entry_list_mul (F.args_list_mul_2 (.ref l) (.int k t)) (lm_list_mul_any l its.toArray n1 none s1 k t ?_ ?_ ?_) ⟨g1, ?_⟩
  · simp [Builtin.List.listFitsIndex]
    omega
  · rw [hsz]
    omega
  · rw [hsz]
    simp [Builtin.List.listTooLong]
    omega
  · have ee : List.foldl (fun x1 x2 => x1 ++ x2) #[] (List.replicate (if its.toArray.isEmpty = true then 0 else k.toNat) its.toArray) = (List.replicate k.toNat its).flatten.toArray := by
      cases its with
      | nil => simp
      | cons a b => exact size_rep _ _
    rw [ee]
    exact ⟨.ref s.heap.objs.size, _, I.lnew (Vals.rep r1 k.toNat) (by rw [PyProof.Rows.lm_len_rep_flat, Nat.mul_comm]; exact hs), rfl, q _ I.fresh⟩
theorem op_repS : OpR X (binaryOp .Mult) (fun x y H Q => ∃ l k xs, x = .ref l ∧ y = .int k ∧ SqT X.K H l xs ∧ (-(2 ^ 63) ≤ k ∧ k < 2 ^ 63) ∧ (xs = [] ∨ k = 1) ∧ Q (.ref l) H) := by
  rintro pins s σ H x y v u Q I rx ry ⟨l, k, xs, rfl, rfl, hx, hk, hs, q⟩
  obtain ⟨its, r1, ⟨⟨c1, d1, u1, s1⟩, g1, k1, n1, k3⟩, w1⟩ := I.tuple hx
  cases rx
  obtain ⟨t, rfl⟩ := ry
  simp only at k1 k3
  subst k1 k3
  have e1 := Vals.length r1
  have c0 : (decide (k < -2 ^ 63) || decide (k ≥ 2 ^ 63)) = false := by
    rw [Bool.or_eq_false_iff, decide_eq_false_iff_not, decide_eq_false_iff_not]
    omega
  have c1 : (its.toArray.isEmpty || k == 1) = true := by
    rcases hs with hs | hs
    · subst hs
      cases its with
      | nil => rfl
      | cons a b => cases e1
    · subst hs
      simp
  exact wpAny_binaryOp_repeat_ref (by decide) ⟨_, g1, rfl⟩ (fun s' => typeIs_int s' k t) noFill_tuple_mul F.fills_int_mul F.slot_int_rmul repeat_tuple F.slot_int_index.lookup
    (call_meets F.slot_int_rmul (typeIs_int s k t) F.entry_int_rmul (F.args_int_rmul_2 (.int k t) (.ref l)) (int_rmul_tuple k t l its.toArray n1 d1 s1) ⟨g1, rfl, ⟨_, g1, rfl⟩,
      call_meets F.slot_tuple_mul ⟨_, g1, rfl⟩ F.entry_tuple_mul (F.args_tuple_mul_2 (.ref l) (.int k t)) (tuple_mul1 l its.toArray n1 d1 s1 k t c0 c1) ⟨g1, ⟨.ref l, H, I, rfl, q⟩⟩⟩)
theorem op_rep0 : OpR X (binaryOp .Mult) (fun x y H Q => ∃ l k xs, x = .ref l ∧ y = .int k ∧ SqT X.K H l xs ∧ (-(2 ^ 63) ≤ k ∧ k ≤ 0) ∧ xs ≠ [] ∧ ∀ p, H p = none → Q (.ref p) (upd H p (.tup []))) := by
  rintro pins s σ H x y v u Q I rx ry ⟨l, k, xs, rfl, rfl, hx, hk, hs, q⟩
  obtain ⟨its, r1, ⟨⟨c1, d1, u1, s1⟩, g1, k1, n1, k3⟩, w1⟩ := I.tuple hx
  cases rx
  obtain ⟨t, rfl⟩ := ry
  simp only at k1 k3
  subst k1 k3
  have e1 := Vals.length r1
  have c0 : (decide (k < -2 ^ 63) || decide (k ≥ 2 ^ 63)) = false := by
    rw [Bool.or_eq_false_iff, decide_eq_false_iff_not, decide_eq_false_iff_not]
    omega
  have c1 : (its.toArray.isEmpty || k == 1) = false := by
    have : k ≠ 1 := by omega
    cases its with
    | nil => exact absurd (List.eq_nil_of_length_eq_zero e1) hs
    | cons a b => simp [this]
  exact wpAny_binaryOp_repeat_ref (by decide) ⟨_, g1, rfl⟩ (fun s' => typeIs_int s' k t) noFill_tuple_mul F.fills_int_mul F.slot_int_rmul repeat_tuple F.slot_int_index.lookup
    (call_meets F.slot_int_rmul (typeIs_int s k t) F.entry_int_rmul (F.args_int_rmul_2 (.int k t) (.ref l)) (int_rmul_tuple k t l its.toArray n1 d1 s1) ⟨g1, rfl, ⟨_, g1, rfl⟩,
      call_meets F.slot_tuple_mul ⟨_, g1, rfl⟩ F.entry_tuple_mul (F.args_tuple_mul_2 (.ref l) (.int k t)) (tuple_mul0 l its.toArray n1 d1 s1 k t c0 c1 hk.2)
        ⟨g1, ⟨.ref s.heap.objs.size, upd H s.heap.objs.size (.tup []), I.laid (fun b ob q => Heap.get?_push_of_some _ q) (Nat.le_refl _) ⟨Nat.zero_le _, [], .nil, PyProof.Rows.IsTup.new _ _⟩, rfl, q _ I.fresh⟩⟩⟩)
def repOk (n : Nat) (k : Int) : Bool := decide (-1000 ≤ k ∧ k ≤ 1000 ∧ n ≤ 1000)
def fMul : D → D → Option R
  | .int i, .int j => if mulOk i j = true then some (.va (.int (i * j))) else none
  | .list xs, .int k => if (-9223372036854775808 ≤ k ∧ k < 9223372036854775808) ∧ xs.length * k.toNat ≤ lim then some (.nw (.list (List.replicate k.toNat xs).flatten)) else none
  | .tuple xs, .int k => if repOk xs.length k = true then some (.va (.tuple (List.replicate k.toNat xs).flatten)) else none
  | _, _ => none
theorem RpL.rep {K : PySem.W.Frag} {M : Addr → Prop} {H : Hp} {ds : List D} {vs : List V} (h : RpL K M H ds vs) : ∀ n : Nat, RpL K M H (List.replicate n ds).flatten (List.replicate n vs).flatten
  | 0 => RpL.nil
  | n + 1 => by
    rw [List.replicate_succ, List.replicate_succ, List.flatten_cons, List.flatten_cons]
    exact h.append (RpL.rep h n)
theorem op_mul' : OpR X (binaryOp .Mult) (rD X.K fMul) := OpR.best fun x y H Q h => by
  have h0 := h
  obtain ⟨M, u, v, q, m, hu, hv, hf, k⟩ := h
  unfold fMul at hf
  split at hf
  · rename_i i j
    obtain ⟨hl, e⟩ := ite_some hf
    subst e
    refine ⟨_, op_mulI, M, .int i, .int j, _, m, hu, hv, ?_, k⟩
    simp only [fII, iMul, if_pos hl, Option.map_some]
  · obtain ⟨hl, e⟩ := ite_some hf
    subst e
    obtain ⟨a, vs, e1, l1, r1⟩ := hu
    refine ⟨_, op_repL, a, _, vs, e1, rpi_int hv, l1, ⟨by omega, by omega⟩, by rw [← r1.length]; exact sizeLim hl.2, fun p hp => ?_⟩
    exact k _ _ (Ext.new hp) (nw_list hp (r1.rep _))
  · rename_i xs n
    obtain ⟨hl, e⟩ := ite_some hf
    subst e
    obtain ⟨a, vs, e1, l1, r1⟩ := hu
    have n1 := r1.length
    unfold repOk at hl
    have hl := of_decide_eq_true hl
    by_cases h1 : vs = [] ∨ n = 1
    · refine ⟨_, op_repS, a, _, vs, e1, rpi_int hv, l1, ⟨by omega, by omega⟩, h1, k _ H (Ext.refl H) ?_⟩
      have ee : (List.replicate n.toNat xs).flatten = xs := by
        rcases h1 with h1 | h1
        · subst h1
          have : xs = [] := List.length_eq_zero_iff.mp n1
          subst this
          simp
        · subst h1
          simp
      rw [ee]
      exact nw_same m l1 r1
    · simp only [not_or] at h1
      by_cases h2 : n ≤ 0
      · refine ⟨_, op_rep0, a, _, vs, e1, rpi_int hv, l1, ⟨by omega, h2⟩, h1.1, fun p hp => k _ _ (Ext.new hp) ?_⟩
        have : n.toNat = 0 := by omega
        rw [this]
        exact nw_tup m hp RpL.nil
      · refine ⟨_, op_repT, a, _, vs, e1, rpi_int hv, l1, h1.1, by have := h1.2; omega, by omega, by omega, fun p hp => k _ _ (Ext.new hp) (nw_tup m hp (r1.rep _))⟩
  · cases hf
end
end SE
set_option Elab.async false
set_option linter.all false
set_option maxRecDepth 100000
set_option maxHeartbeats 1000000
namespace SE
open PySem L2
section
variable {X : Cx}
def boolR (b : Bool) : R := .va (.bool b)
/-- both are read by == -/
def shp2 (d e : D) : Bool := SeqAt.shaped d && SeqAt.shaped e
mutual
theorem noDict_of : ∀ (d : D), PyData.canLay0 d = true → PyData.hasDict d = false
  | .none, _ => rfl
  | .bool _, _ => rfl
  | .int _, _ => rfl
  | .str _, _ => rfl
  | .list ds, h => by
    simp only [PyData.canLay0] at h
    simp only [PyData.hasDict]
    exact noDicts_of ds h
  | .tuple ds, h => by
    simp only [PyData.canLay0] at h
    simp only [PyData.hasDict]
    exact noDicts_of ds h
  | .dict kvs, h => by simp only [PyData.canLay0] at h; cases h
theorem noDicts_of : ∀ (ds : List D), PyData.canLayAll0 ds = true → PyData.hasDictAll ds = false
  | [], _ => rfl
  | d :: ds, h => by
    simp only [PyData.canLayAll0, Bool.and_eq_true] at h
    simp only [PyData.hasDictAll, Bool.or_eq_false_iff]
    exact ⟨noDict_of d h.1, noDicts_of ds h.2⟩
end
theorem shaped_dp {K : PySem.W.Frag} {M : Addr → Prop} {H : Hp} {d : D} {v : V} (h : RpI K M H d v) (s : SeqAt.shaped d = true) : Dp K H v d := by
  unfold SeqAt.shaped at s
  simp only [Bool.and_eq_true] at s
  exact h.dp (noDict_of d s.1)
def fEq : D → D → Option R
  | .int i, .int j => some (boolR (decide (i = j)))
  | .str a, .str b => some (boolR (decide (a = b)))
  | .bool a, .bool b => some (boolR (decide (a = b)))
  | d, e => if shp2 d e = true then some (boolR (PyData.eqv d e)) else none
theorem op_eqS : OpR X (compareOp .Eq) rEq := op_eq
theorem op_eq' (hu : X.A.units + 64 < cLine) : OpR X (compareOp .Eq) (rD X.K fEq) := OpR.best fun x y H Q h => by
  obtain ⟨M, u, v, q, m, hx, hy, hf, k⟩ := h
  unfold fEq at hf
  split at hf
  · rename_i i j
    cases hf
    have e1 := rpi_int hx
    have e2 := rpi_int hy
    subst e1 e2
    refine ⟨_, op_eq, rfl, ?_⟩
    have : decide (V.int i = V.int j) = decide (i = j) := decide_eq_decide.mpr ⟨fun h => V.int.inj h, fun h => by rw [h]⟩
    rw [this]
    exact k _ H (Ext.refl H) nw_bool
  · rename_i i j
    cases hf
    have e1 := rpi_str hx
    have e2 := rpi_str hy
    subst e1 e2
    refine ⟨_, op_eq, rfl, ?_⟩
    have : decide (V.str i = V.str j) = decide (i = j) := decide_eq_decide.mpr ⟨fun h => V.str.inj h, fun h => by rw [h]⟩
    rw [this]
    exact k _ H (Ext.refl H) nw_bool
  · rename_i i j
    cases hf
    have e1 := rpi_bool hx
    have e2 := rpi_bool hy
    subst e1 e2
    refine ⟨_, op_eq, rfl, ?_⟩
    have : decide (V.bl i = V.bl j) = decide (i = j) := decide_eq_decide.mpr ⟨fun h => V.bl.inj h, fun h => by rw [h]⟩
    rw [this]
    exact k _ H (Ext.refl H) nw_bool
  · obtain ⟨hl, e⟩ := ite_some hf
    subst e
    simp only [shp2, Bool.and_eq_true] at hl
    exact ⟨_, op_eqD hu, _, _, shaped_dp hx hl.1, shaped_dp hy hl.2, hl.1, hl.2, k _ H (Ext.refl H) nw_bool⟩
def fNe : D → D → Option R
  | .int i, .int j => some (boolR (!decide (i = j)))
  | .str a, .str b => some (boolR (!decide (a = b)))
  | .bool a, .bool b => some (boolR (!decide (a = b)))
  | d, e => if shp2 d e = true then some (boolR (!PyData.eqv d e)) else none
theorem op_ne' (hu : X.A.units + 64 < cLine) : OpR X (compareOp .NotEq) (rD X.K fNe) := OpR.best fun x y H Q h => by
  obtain ⟨M, u, v, q, m, hx, hy, hf, k⟩ := h
  unfold fNe at hf
  split at hf
  · rename_i i j
    cases hf
    have e1 := rpi_int hx
    have e2 := rpi_int hy
    subst e1 e2
    refine ⟨_, op_ne, rfl, ?_⟩
    have : decide (V.int i = V.int j) = decide (i = j) := decide_eq_decide.mpr ⟨fun h => V.int.inj h, fun h => by rw [h]⟩
    rw [this]
    exact k _ H (Ext.refl H) nw_bool
  · rename_i i j
    cases hf
    have e1 := rpi_str hx
    have e2 := rpi_str hy
    subst e1 e2
    refine ⟨_, op_ne, rfl, ?_⟩
    have : decide (V.str i = V.str j) = decide (i = j) := decide_eq_decide.mpr ⟨fun h => V.str.inj h, fun h => by rw [h]⟩
    rw [this]
    exact k _ H (Ext.refl H) nw_bool
  · rename_i i j
    cases hf
    have e1 := rpi_bool hx
    have e2 := rpi_bool hy
    subst e1 e2
    refine ⟨_, op_ne, rfl, ?_⟩
    have : decide (V.bl i = V.bl j) = decide (i = j) := decide_eq_decide.mpr ⟨fun h => V.bl.inj h, fun h => by rw [h]⟩
    rw [this]
    exact k _ H (Ext.refl H) nw_bool
  · obtain ⟨hl, e⟩ := ite_some hf
    subst e
    simp only [shp2, Bool.and_eq_true] at hl
    exact ⟨_, op_neD hu, _, _, shaped_dp hx hl.1, shaped_dp hy hl.2, hl.1, hl.2, k _ H (Ext.refl H) nw_bool⟩
def fLt : D → D → Option R
  | .int i, .int j => some (boolR (decide (i < j)))
  | _, _ => none
def fLe : D → D → Option R
  | .int i, .int j => some (boolR (decide (i ≤ j)))
  | _, _ => none
def fGt : D → D → Option R
  | .int i, .int j => some (boolR (decide (j < i)))
  | _, _ => none
def fGe : D → D → Option R
  | .int i, .int j => some (boolR (decide (j ≤ i)))
  | _, _ => none
theorem op_lt' : OpR X (compareOp .Lt) (rD X.K fLt) := OpR.best fun x y H Q h => by
  obtain ⟨M, u, v, q, m, hx, hy, hf, k⟩ := h
  unfold fLt at hf
  split at hf
  · cases hf
    exact ⟨_, op_lt, _, _, rpi_int hx, rpi_int hy, k _ H (Ext.refl H) nw_bool⟩
  · cases hf
theorem op_le' : OpR X (compareOp .LtE) (rD X.K fLe) := OpR.best fun x y H Q h => by
  obtain ⟨M, u, v, q, m, hx, hy, hf, k⟩ := h
  unfold fLe at hf
  split at hf
  · cases hf
    exact ⟨_, op_le, _, _, rpi_int hx, rpi_int hy, k _ H (Ext.refl H) nw_bool⟩
  · cases hf
theorem op_gt' : OpR X (compareOp .Gt) (rD X.K fGt) := OpR.best fun x y H Q h => by
  obtain ⟨M, u, v, q, m, hx, hy, hf, k⟩ := h
  unfold fGt at hf
  split at hf
  · cases hf
    exact ⟨_, op_gt, _, _, rpi_int hx, rpi_int hy, k _ H (Ext.refl H) nw_bool⟩
  · cases hf
theorem op_ge' : OpR X (compareOp .GtE) (rD X.K fGe) := OpR.best fun x y H Q h => by
  obtain ⟨M, u, v, q, m, hx, hy, hf, k⟩ := h
  unfold fGe at hf
  split at hf
  · cases hf
    exact ⟨_, op_ge, _, _, rpi_int hx, rpi_int hy, k _ H (Ext.refl H) nw_bool⟩
  · cases hf
def isNone : D → Bool
  | .none => true
  | _ => false
def fIs : D → D → Option R
  | d, .none => some (boolR (isNone d))
  | _, _ => none
def fIsNot : D → D → Option R
  | d, .none => some (boolR (!isNone d))
  | _, _ => none
theorem isNone_eq {K : PySem.W.Frag} {M : Addr → Prop} {H : Hp} {d : D} {v : V} (h : RpI K M H d v) : decide (v = .non) = isNone d := by
  cases d with
  | none => rw [rpi_none h]; rfl
  | bool b => rw [rpi_bool h]; rfl
  | int b => rw [rpi_int h]; rfl
  | str b => rw [rpi_str h]; rfl
  | list ds => obtain ⟨a, vs, e, _⟩ := h; rw [e]; rfl
  | tuple ds => obtain ⟨a, vs, e, _⟩ := h; rw [e]; rfl
  | dict ds => obtain ⟨a, e, _⟩ := h; rw [e]; rfl
theorem op_is' : OpR X (compareOp .Is) (rD X.K fIs) := OpR.best fun x y H Q h => by
  obtain ⟨M, u, v, q, m, hx, hy, hf, k⟩ := h
  unfold fIs at hf
  split at hf
  · cases hf
    refine ⟨_, op_isN, rpi_none hy, ?_⟩
    rw [isNone_eq hx]
    exact k _ H (Ext.refl H) nw_bool
  · cases hf
theorem op_isnot' : OpR X (compareOp .IsNot) (rD X.K fIsNot) := OpR.best fun x y H Q h => by
  obtain ⟨M, u, v, q, m, hx, hy, hf, k⟩ := h
  unfold fIsNot at hf
  split at hf
  · cases hf
    refine ⟨_, op_notN, rpi_none hy, ?_⟩
    rw [isNone_eq hx]
    exact k _ H (Ext.refl H) nw_bool
  · cases hf
def flat : D → Bool
  | .none => true
  | .bool _ => true
  | .int _ => true
  | .str _ => true
  | _ => false
theorem flat_v {K : PySem.W.Frag} {M : Addr → Prop} {H : Hp} {d : D} {v : V} (h : RpI K M H d v) (f : flat d = true) : flatV v = true ∧ ∀ {e : D} {w : V}, RpI K M H e w → flat e = true → eqV w v = PyData.eqv e d := by
  cases d with
  | none =>
    have e0 := rpi_none h
    subst e0
    refine ⟨rfl, fun {e w} h' f' => ?_⟩
    cases e with
    | none => rw [rpi_none h']; rfl
    | bool b => rw [rpi_bool h']; rfl
    | int b => rw [rpi_int h']; rfl
    | str b => rw [rpi_str h']; rfl
    | list ds => cases f'
    | tuple ds => cases f'
    | dict ds => cases f'
  | bool b =>
    have e0 := rpi_bool h
    subst e0
    refine ⟨rfl, fun {e w} h' f' => ?_⟩
    cases e with
    | none => rw [rpi_none h']; rfl
    | bool b => rw [rpi_bool h']; rfl
    | int b => rw [rpi_int h']; rfl
    | str b => rw [rpi_str h']; rfl
    | list ds => cases f'
    | tuple ds => cases f'
    | dict ds => cases f'
  | int b =>
    have e0 := rpi_int h
    subst e0
    refine ⟨rfl, fun {e w} h' f' => ?_⟩
    cases e with
    | none => rw [rpi_none h']; rfl
    | bool b => rw [rpi_bool h']; rfl
    | int b => rw [rpi_int h']; rfl
    | str b => rw [rpi_str h']; rfl
    | list ds => cases f'
    | tuple ds => cases f'
    | dict ds => cases f'
  | str b =>
    have e0 := rpi_str h
    subst e0
    refine ⟨rfl, fun {e w} h' f' => ?_⟩
    cases e with
    | none => rw [rpi_none h']; rfl
    | bool b => rw [rpi_bool h']; rfl
    | int b => rw [rpi_int h']; rfl
    | str b => rw [rpi_str h']; rfl
    | list ds => cases f'
    | tuple ds => cases f'
    | dict ds => cases f'
  | list ds => cases f
  | tuple ds => cases f
  | dict ds => cases f
theorem inV_eq {K : PySem.W.Frag} {M : Addr → Prop} {H : Hp} {d : D} {v : V} (h : RpI K M H d v) (f : flat d = true) : ∀ {ds : List D} {vs : List V}, RpL K M H ds vs → ds.all flat = true → vs.all flatV = true ∧ inV v vs = ds.any fun z => PyData.eqv z d
  | [], vs, r, _ => by
    simp only [RpL] at r
    subst r
    exact ⟨rfl, rfl⟩
  | e :: ds, vs, r, f' => by
    simp only [RpL] at r
    obtain ⟨w, ws, ev, r1, r2⟩ := r
    subst ev
    simp only [List.all_cons, Bool.and_eq_true] at f'
    obtain ⟨a1, a2⟩ := inV_eq h f r2 f'.2
    have b1 := (flat_v (Rp.inp r1) f'.1).1
    have b2 := (flat_v h f).2 (Rp.inp r1) f'.1
    refine ⟨by rw [List.all_cons, b1, a1]; rfl, ?_⟩
    unfold inV at a2 ⊢
    rw [List.any_cons, List.any_cons, a2, b2]
def inD (d : D) (ds : List D) : Bool := ds.any fun z => PyData.eqv z d
def dIn : D → D → Option Bool
  | d, .list ds => if (flat d && ds.all flat) = true then some (inD d ds) else if shp2 d (.list ds) = true then some (inD d ds) else none
  | d, .tuple ds => if (flat d && ds.all flat) = true then some (inD d ds) else none
  | .str a, .str b => some (!(Builtin.Str.occurrences b a 0 b.length 1).isEmpty)
  | _, _ => none
def fIn (x y : D) : Option R := (dIn x y).map boolR
def fNotIn (x y : D) : Option R := (dIn x y).map fun b => boolR (!b)
theorem op_in' (hu : X.A.units + 65 < cLine) : OpR X (compareOp .In) (rD X.K fIn) := OpR.best fun x y H Q h => by
  obtain ⟨M, u, v, q, m, hx, hy, hf, k⟩ := h
  unfold fIn at hf
  obtain ⟨b, hb, e⟩ := Option.map_eq_some_iff.mp hf
  subst e
  unfold dIn at hb
  split at hb
  · rename_i ds
    by_cases hc : (flat u && ds.all flat) = true
    · rw [if_pos hc] at hb
      cases hb
      simp only [Bool.and_eq_true] at hc
      obtain ⟨a, vs, e1, l1, r1⟩ := hy
      obtain ⟨b1, b2⟩ := inV_eq hx hc.1 r1 hc.2
      refine ⟨_, op_in_seq, a, vs, e1, .inl l1, (flat_v hx hc.1).1, b1, ?_⟩
      rw [if_neg Bool.false_ne_true, b2]
      exact k _ H (Ext.refl H) nw_bool
    · rw [if_neg hc] at hb
      obtain ⟨hl, e⟩ := ite_some hb
      subst e
      simp only [shp2, Bool.and_eq_true] at hl
      exact ⟨_, op_inD hu, _, _, shaped_dp hx hl.1, shaped_dp hy hl.2, hl.1, hl.2, k _ H (Ext.refl H) nw_bool⟩
  · rename_i ds
    obtain ⟨hc, e⟩ := ite_some hb
    subst e
    simp only [Bool.and_eq_true] at hc
    obtain ⟨a, vs, e1, l1, r1⟩ := hy
    obtain ⟨b1, b2⟩ := inV_eq hx hc.1 r1 hc.2
    refine ⟨_, op_in_seq, a, vs, e1, .inr l1, (flat_v hx hc.1).1, b1, ?_⟩
    rw [if_neg Bool.false_ne_true, b2]
    exact k _ H (Ext.refl H) nw_bool
  · cases hb
    exact ⟨_, op_in_str, _, _, rpi_str hx, rpi_str hy, k _ H (Ext.refl H) nw_bool⟩
  · cases hb
theorem op_notin' (hu : X.A.units + 65 < cLine) : OpR X (compareOp .NotIn) (rD X.K fNotIn) := OpR.best fun x y H Q h => by
  obtain ⟨M, u, v, q, m, hx, hy, hf, k⟩ := h
  unfold fNotIn at hf
  obtain ⟨b, hb, e⟩ := Option.map_eq_some_iff.mp hf
  subst e
  unfold dIn at hb
  split at hb
  · rename_i ds
    by_cases hc : (flat u && ds.all flat) = true
    · rw [if_pos hc] at hb
      cases hb
      simp only [Bool.and_eq_true] at hc
      obtain ⟨a, vs, e1, l1, r1⟩ := hy
      obtain ⟨b1, b2⟩ := inV_eq hx hc.1 r1 hc.2
      refine ⟨_, op_notIn_seq, a, vs, e1, .inl l1, (flat_v hx hc.1).1, b1, ?_⟩
      rw [if_pos rfl, b2]
      exact k _ H (Ext.refl H) nw_bool
    · rw [if_neg hc] at hb
      obtain ⟨hl, e⟩ := ite_some hb
      subst e
      simp only [shp2, Bool.and_eq_true] at hl
      exact ⟨_, op_notInD hu, _, _, shaped_dp hx hl.1, shaped_dp hy hl.2, hl.1, hl.2, k _ H (Ext.refl H) nw_bool⟩
  · rename_i ds
    obtain ⟨hc, e⟩ := ite_some hb
    subst e
    simp only [Bool.and_eq_true] at hc
    obtain ⟨a, vs, e1, l1, r1⟩ := hy
    obtain ⟨b1, b2⟩ := inV_eq hx hc.1 r1 hc.2
    refine ⟨_, op_notIn_seq, a, vs, e1, .inr l1, (flat_v hx hc.1).1, b1, ?_⟩
    rw [if_pos rfl, b2]
    exact k _ H (Ext.refl H) nw_bool
  · cases hb
    exact ⟨_, op_notin_str, _, _, rpi_str hx, rpi_str hy, k _ H (Ext.refl H) nw_bool⟩
  · cases hb
def fIx : D → D → Option R
  | .list ds, .int i => (atI ds i).map .va
  | .tuple ds, .int i => (atI ds i).map .va
  | .str z, .int i => if z.length ≤ lim then (atI z.cps.toList i).map fun c => .va (.str ⟨#[c]⟩) else none
  | _, _ => none
theorem atI_rp {K : PySem.W.Frag} {M : Addr → Prop} {H : Hp} {ds : List D} {vs : List V} {i : Int} {d : D} (r : RpL K M H ds vs) (h : atI ds i = some d) : ∃ v, atI vs i = some v ∧ Rp K M H d v := by
  unfold atI at h ⊢
  rw [← r.length]
  obtain ⟨j, hj, h⟩ := bind_some2 h
  obtain ⟨v, h1, h2⟩ := r.get h
  exact ⟨v, by rw [hj]; exact h1, h2⟩
theorem ix_all : IxR X (rD X.K fIx) := IxR.best fun x y H Q h => by
  obtain ⟨M, u, v, q, m, hx, hy, hf, k⟩ := h
  unfold fIx at hf
  split at hf
  · obtain ⟨d, hd, e⟩ := Option.map_eq_some_iff.mp hf
    subst e
    obtain ⟨a, vs, e1, l1, r1⟩ := hx
    obtain ⟨w, h1, h2⟩ := atI_rp r1 hd
    exact ⟨_, ix_list, a, vs, _, w, e1, rpi_int hy, l1, h1, k _ H (Ext.refl H) h2⟩
  · obtain ⟨d, hd, e⟩ := Option.map_eq_some_iff.mp hf
    subst e
    obtain ⟨a, vs, e1, l1, r1⟩ := hx
    obtain ⟨w, h1, h2⟩ := atI_rp r1 hd
    exact ⟨_, ix_tup, a, vs, _, w, e1, rpi_int hy, l1, h1, k _ H (Ext.refl H) h2⟩
  · rename_i z i
    by_cases hl : z.length ≤ lim
    · rw [if_pos hl] at hf
      obtain ⟨d, hd, e⟩ := Option.map_eq_some_iff.mp hf
      subst e
      exact ⟨_, ix_str, _, _, _, rpi_str hx, rpi_int hy, sizeLim hl, hd, k _ H (Ext.refl H) nw_str⟩
    · rw [if_neg hl] at hf; cases hf
  · cases hf
def cut (ds : List D) (lo hi : Option Int) : List D := (ds.drop (HT.sIx ds.length 0 lo)).take (HT.sIx ds.length ds.length hi - HT.sIx ds.length 0 lo)
def fSl : D → Option Int → Option Int → Option R
  | .list ds, lo, hi => some (.nw (.list (cut ds lo hi)))
  | .tuple ds, lo, hi => some (.va (.tuple (cut ds lo hi)))
  | .str z, lo, hi => if z.length ≤ lim then some (.va (.str (cutS z lo hi))) else none
  | _, _, _ => none
theorem cut_rp {K : PySem.W.Frag} {M : Addr → Prop} {H : Hp} {ds : List D} {vs : List V} (r : RpL K M H ds vs) (lo hi : Option Int) : RpL K M H (cut ds lo hi) (cutV vs lo hi) := by
  unfold cut cutV
  rw [← r.length]
  exact (r.drop _).take _
theorem cut_all {ds : List D} {lo hi : Option Int} (h : HT.sIx ds.length 0 lo = 0 ∧ HT.sIx ds.length ds.length hi = ds.length) : cut ds lo hi = ds := by
  unfold cut
  rw [h.1, h.2, List.drop_zero, Nat.sub_zero, List.take_length]
theorem sl_all : SlR X (rDSl X.K fSl) := SlR.best fun x lo hi H Q h => by
  obtain ⟨M, u, q, m, hx, hf, k⟩ := h
  unfold fSl at hf
  split at hf
  · cases hf
    obtain ⟨a, vs, e1, l1, r1⟩ := hx
    exact ⟨_, sl_list, a, vs, e1, l1, fun p hp => k _ _ (Ext.new hp) (nw_list hp (cut_rp r1 _ _))⟩
  · cases hf
    obtain ⟨a, vs, e1, l1, r1⟩ := hx
    refine ⟨_, sl_tupA, a, vs, e1, l1, fun z => ?_, fun _ p hp => k _ _ (Ext.new hp) (nw_tup m hp (cut_rp r1 _ _))⟩
    rw [← r1.length] at z
    rw [cut_all z] at k
    exact k _ H (Ext.refl H) (nw_same m l1 r1)
  · obtain ⟨hl, e⟩ := ite_some hf
    subst e
    exact ⟨_, sl_str, _, rpi_str hx, sizeLim hl, k _ H (Ext.refl H) nw_str⟩
  · cases hf
end
end SE
set_option Elab.async false
set_option linter.all false
set_option maxRecDepth 100000
set_option maxHeartbeats 1000000
namespace SE
open PySem L2

/-- a comparison that reads the heap -/
def CmpLtH (prog : Program) (w : World) (A : Around) (h0 : Heap) (wr : List Addr) (S : Addr) (P : Nat → Value → Prop) (bt : Nat → Nat → Bool) : Prop :=
  ∀ (i j : Nat) (vi vj : Value) (s : Shared) (Q E : Value → Shared → Prop), P i vi → P j vj → (∀ (b : Addr) (o : Obj), ¬ b ∈ wr → b ≠ S → h0.get? b = some o → s.heap.get? b = some o) → Q (.bool (bt i j)) s → wpAny (model prog w) A (richCompare .Lt vi vj) Q E s
theorem min_loopH {prog : Program} {w : World} {A : Around} {R : Result → Shared → Prop} {I : Addr} {fp wr : List Addr} {n : Nat} {P : Nat → Value → Prop} {St : Nat → Heap → Prop}
    (W : Walks prog w A.in1 I fp wr n P St) (bt : Nat → Nat → Bool) {h0 : Heap} (S : Addr) (hcmp : CmpLtH prog w A.in1 h0 wr S P bt) (hSf : ¬ S ∈ fp) :
    ∀ (k j : Nat) (s : Shared) (vb : Value) (c : Nat), n - (j + 1) = k → j + 1 ≤ n → St (j + 1) s.heap → P (argBest bt j) vb →
      s.heap.get? S = some { cls := Value.type "list", data := Data.seq #[vb, vb] c } →
      (∀ (b : Addr) (o : Obj), ¬ b ∈ wr → b ≠ S → h0.get? b = some o → s.heap.get? b = some o) →
      (∀ (v : Value) (h' : Heap) (tk : Nat), P (argBest bt (n - 1)) v → (∀ (b : Addr) (o : Obj), ¬ b ∈ wr → b ≠ S → s.heap.get? b = some o → h'.get? b = some o) →
        R (Except.ok (Flow.ret v)) { heap := h', gens := s.gens, drawn := s.drawn, toks := tk, os := s.os }) →
      codeAny (model prog w) A (Code.builtin "min.loop" { pos := [Value.ref I, Value.none, Value.ref S] }) R s := by
  have hSw : ¬ S ∈ wr := fun h => hSf (W.sub S h)
  have hname : (toString "min" ++ toString ".loop") = "min.loop" := by decide
  intro k
  induction k with
  | zero =>
    intro j s vb c hk hj hst hPb hS h0s hR
    have hin : n = j + 1 := by omega
    refine codeAny_builtin F.entry_min_loop ?_
    rw [Around.under_plainId F.plain_min_loop]
    refine wpAny_bind (wpAny_seqItems hS rfl (wpAny_bind (wpAny_tryCatch (W.done s _ _ (hin ▸ hst) fun h' tk hk' => ?_))))
    have hS' := hk' S _ hSw hS
    refine wpAny_bind (wpAny_updateSeq hS' rfl (wpAny_bind (wpAny_letGo (wpAny_pure (hR vb _ _ (by rw [hin]; exact hPb) fun b o hbw hbS e => ?_)))) ?_ ?_)
    · exact (Heap.get?_update_other _ _ (Ne.symm hbS)).trans (hk' b o hbw e)
    · simp [sizeLine_eq]
    · simp [sizeLine_eq]
  | succ k ih =>
    intro j s vb c hk hj hst hPb hS h0s hR
    have hlt : j + 1 < n := by omega
    refine codeAny_builtin F.entry_min_loop ?_
    rw [Around.under_plainId F.plain_min_loop]
    refine wpAny_bind (wpAny_seqItems hS rfl (wpAny_bind (wpAny_tryCatch (W.item (j + 1) s _ _ hlt hst fun v h' tk hP hst' hk' => ?_))))
    have hS' := hk' S _ hSw hS
    refine wpAny_bind (wpAny_pure ?_)
    refine wpAny_bind (wpAny_tryCatch (wpAny_holding (wpAny_bind (hcmp (j + 1) (argBest bt j) v vb _ _ _ hP hPb (fun b o n1 n2 e => hk' b o n1 (h0s b o n1 n2 e)) ?_))))
    refine wpAny_bind (wpAny_holding (wpAny_truthy_bool ?_))
    refine wpAny_bind (wpAny_letGo (wpAny_pure ?_))
    cases hb : bt (j + 1) (argBest bt j) with
    | true =>
      refine wpAny_ite_true rfl ?_
      refine wpAny_bind (wpAny_updateSeq hS' rfl (wpAny_bind (wpAny_letGo ?_)) ?_ ?_)
      · dsimp only
        rw [hname]
        refine wpAny_pure ⟨plainId_quiet F.plain_min_loop _, ih (j + 1) _ v _ (by omega) hlt ?_ ?_ (Heap.get?_update_self _ hS' rfl) ?_ ?_⟩
        · exact W.frame _ _ _ hst' fun b hbf o e => (Heap.get?_update_other h' _ (fun h => hSf (by rw [h]; exact hbf))).trans e
        · simp only [argBest, hb, if_true]
          exact hP
        · exact fun b o n1 n2 e => (Heap.get?_update_other h' _ (Ne.symm n2)).trans (hk' b o n1 (h0s b o n1 n2 e))
        · exact fun v' h'' tk'' hP' hk'' => hR v' h'' tk'' hP' fun b o hbw hbS e => hk'' b o hbw hbS ((Heap.get?_update_other h' _ (Ne.symm hbS)).trans (hk' b o hbw e))
      · simp [sizeLine_eq]
      · simp [sizeLine_eq]
    | false =>
      refine wpAny_ite_false rfl ?_
      refine wpAny_bind (wpAny_letGo ?_)
      dsimp only
      rw [hname]
      refine wpAny_pure ⟨plainId_quiet F.plain_min_loop _, ih (j + 1) _ vb _ (by omega) hlt hst' ?_ hS' ?_ ?_⟩
      · simp only [argBest, hb, Bool.false_eq_true, if_false]
        exact hPb
      · exact fun b o n1 n2 e => hk' b o n1 (h0s b o n1 n2 e)
      · exact fun v' h'' tk'' hP' hk'' => hR v' h'' tk'' hP' fun b o hbw hbS e => hk'' b o hbw hbS (hk' b o hbw e)
theorem min_firstH {prog : Program} {w : World} {A : Around} {R : Result → Shared → Prop} {I : Addr} {fp wr : List Addr} {n : Nat} {P : Nat → Value → Prop} {St : Nat → Heap → Prop}
    (W : Walks prog w A.in1 I fp wr n P St) (bt : Nat → Nat → Bool) (S : Addr) {s : Shared} {c : Nat} (hcmp : CmpLtH prog w A.in1 s.heap wr S P bt) (hSf : ¬ S ∈ fp) (hn : 0 < n)
    (hst : St 0 s.heap) (hS : s.heap.get? S = some { cls := Value.type "list", data := Data.seq #[] c })
    (hR : ∀ (v : Value) (h' : Heap) (tk : Nat), P (argBest bt (n - 1)) v → (∀ (b : Addr) (o : Obj), ¬ b ∈ wr → b ≠ S → s.heap.get? b = some o → h'.get? b = some o) →
        R (Except.ok (Flow.ret v)) { heap := h', gens := s.gens, drawn := s.drawn, toks := tk, os := s.os }) :
      codeAny (model prog w) A (Code.builtin "min.loop" { pos := [Value.ref I, Value.none, Value.ref S] }) R s := by
  have hSw : ¬ S ∈ wr := fun h => hSf (W.sub S h)
  have hname : (toString "min" ++ toString ".loop") = "min.loop" := by decide
  refine codeAny_builtin F.entry_min_loop ?_
  rw [Around.under_plainId F.plain_min_loop]
  refine wpAny_bind (wpAny_seqItems hS rfl (wpAny_bind (wpAny_tryCatch (W.item 0 s _ _ hn hst fun v h' tk hP hst' hk' => ?_))))
  have hS' := hk' S _ hSw hS
  refine wpAny_bind (wpAny_pure ?_)
  refine wpAny_bind (wpAny_updateSeq hS' rfl ?_ ?_ ?_)
  · dsimp only
    rw [hname]
    refine wpAny_pure ⟨plainId_quiet F.plain_min_loop _, min_loopH W bt (h0 := s.heap) S hcmp hSf (n - (0 + 1)) 0 _ v _ rfl hn ?_ ?_ (Heap.get?_update_self _ hS' rfl) ?_ ?_⟩
    · exact W.frame _ _ _ hst' fun b hbf o e => (Heap.get?_update_other h' _ (fun h => hSf (by rw [h]; exact hbf))).trans e
    · exact hP
    · exact fun b o n1 n2 e => (Heap.get?_update_other h' _ (Ne.symm n2)).trans (hk' b o n1 e)
    · exact fun v' h'' tk'' hP' hk'' => hR v' h'' tk'' hP' fun b o hbw hbS e => hk'' b o hbw hbS ((Heap.get?_update_other h' _ (Ne.symm hbS)).trans (hk' b o hbw e))
  · simp [sizeLine_eq]
  · simp [sizeLine_eq]
/-- min of what is walked, compared by a comparison that reads the heap -/
theorem call_min_walkH {prog : Program} {w : World} {A : Around} {E : Value → Shared → Prop} {s : Shared} {x : Value} {Q : Value → Shared → Prop}
    (h : wpAny (model prog w) A.in1 (pyIter x) (fun it s₂ => ∃ I fp wr n P St bt, it = Value.ref I ∧ Walks prog w A.in1 I fp wr n P St ∧ St 0 s₂.heap ∧ (∀ (b : Addr), b ∈ fp → b < s₂.heap.objs.size) ∧ 0 < n ∧
      (∀ h₁ : Heap, (∀ (b : Addr) (o : Obj), s₂.heap.get? b = some o → h₁.get? b = some o) → CmpLtH prog w A.in1 h₁ wr s₂.heap.objs.size P bt) ∧
      ∀ (v : Value) (h' : Heap) (tk : Nat), P (argBest bt (n - 1)) v → (∀ (b : Addr) (o : Obj), ¬ b ∈ wr → s₂.heap.get? b = some o → h'.get? b = some o) →
        Q v { heap := h', gens := s₂.gens, drawn := s₂.drawn, toks := tk, os := s₂.os }) E s) : wpAny (model prog w) A (call (Value.builtin "min") [x]) Q E s := by
  have hname : (toString "min" ++ toString ".loop") = "min.loop" := by decide
  refine call_function_tree F.kind_min F.plain_min F.entry_min (F.args_min1 x) ?_
  refine wpAny_bind (wpAny_of_eq rfl (wpAny_bind (wpAny_pure (wpAny_bind (wpAny_mono h ?_ fun _ _ e => e)))))
  rintro it s₂ ⟨I, fp, wr, n, P, St, bt, rfl, W, hst, hfp, hn, hcmp, hQ⟩
  have hSf : ¬ s₂.heap.objs.size ∈ fp := fun hm => Nat.lt_irrefl _ (hfp _ hm)
  refine wpAny_bind (wpAny_newObj_type ?_ ?_)
  · dsimp only
    rw [hname]
    refine wpAny_pure ⟨plainId_quiet F.plain_min_loop _, min_firstH W bt s₂.heap.objs.size (hcmp _ fun b o e => Heap.get?_push_of_some _ e) hSf hn (W.frame 0 s₂.heap _ hst fun b x o e => Heap.get?_push_of_some _ e) (Heap.get?_push_size s₂.1 rfl) fun v h' tk hP hk => ?_⟩
    exact hQ v h' tk hP fun b o hbw e => hk b o hbw (Nat.ne_of_lt (Heap.lt_size e)) (Heap.get?_push_of_some _ e)
  · exact Nat.zero_le _

/-- a comparison that reads the heap -/
def CmpGtH (prog : Program) (w : World) (A : Around) (h0 : Heap) (wr : List Addr) (S : Addr) (P : Nat → Value → Prop) (bt : Nat → Nat → Bool) : Prop :=
  ∀ (i j : Nat) (vi vj : Value) (s : Shared) (Q E : Value → Shared → Prop), P i vi → P j vj → (∀ (b : Addr) (o : Obj), ¬ b ∈ wr → b ≠ S → h0.get? b = some o → s.heap.get? b = some o) → Q (.bool (bt i j)) s → wpAny (model prog w) A (richCompare .Gt vi vj) Q E s
theorem max_loopH {prog : Program} {w : World} {A : Around} {R : Result → Shared → Prop} {I : Addr} {fp wr : List Addr} {n : Nat} {P : Nat → Value → Prop} {St : Nat → Heap → Prop}
    (W : Walks prog w A.in1 I fp wr n P St) (bt : Nat → Nat → Bool) {h0 : Heap} (S : Addr) (hcmp : CmpGtH prog w A.in1 h0 wr S P bt) (hSf : ¬ S ∈ fp) :
    ∀ (k j : Nat) (s : Shared) (vb : Value) (c : Nat), n - (j + 1) = k → j + 1 ≤ n → St (j + 1) s.heap → P (argBest bt j) vb →
      s.heap.get? S = some { cls := Value.type "list", data := Data.seq #[vb, vb] c } →
      (∀ (b : Addr) (o : Obj), ¬ b ∈ wr → b ≠ S → h0.get? b = some o → s.heap.get? b = some o) →
      (∀ (v : Value) (h' : Heap) (tk : Nat), P (argBest bt (n - 1)) v → (∀ (b : Addr) (o : Obj), ¬ b ∈ wr → b ≠ S → s.heap.get? b = some o → h'.get? b = some o) →
        R (Except.ok (Flow.ret v)) { heap := h', gens := s.gens, drawn := s.drawn, toks := tk, os := s.os }) →
      codeAny (model prog w) A (Code.builtin "max.loop" { pos := [Value.ref I, Value.none, Value.ref S] }) R s := by
  have hSw : ¬ S ∈ wr := fun h => hSf (W.sub S h)
  have hname : (toString "max" ++ toString ".loop") = "max.loop" := by decide
  intro k
  induction k with
  | zero =>
    intro j s vb c hk hj hst hPb hS h0s hR
    have hin : n = j + 1 := by omega
    refine codeAny_builtin F.entry_max_loop ?_
    rw [Around.under_plainId F.plain_max_loop]
    refine wpAny_bind (wpAny_seqItems hS rfl (wpAny_bind (wpAny_tryCatch (W.done s _ _ (hin ▸ hst) fun h' tk hk' => ?_))))
    have hS' := hk' S _ hSw hS
    refine wpAny_bind (wpAny_updateSeq hS' rfl (wpAny_bind (wpAny_letGo (wpAny_pure (hR vb _ _ (by rw [hin]; exact hPb) fun b o hbw hbS e => ?_)))) ?_ ?_)
    · exact (Heap.get?_update_other _ _ (Ne.symm hbS)).trans (hk' b o hbw e)
    · simp [sizeLine_eq]
    · simp [sizeLine_eq]
  | succ k ih =>
    intro j s vb c hk hj hst hPb hS h0s hR
    have hlt : j + 1 < n := by omega
    refine codeAny_builtin F.entry_max_loop ?_
    rw [Around.under_plainId F.plain_max_loop]
    refine wpAny_bind (wpAny_seqItems hS rfl (wpAny_bind (wpAny_tryCatch (W.item (j + 1) s _ _ hlt hst fun v h' tk hP hst' hk' => ?_))))
    have hS' := hk' S _ hSw hS
    refine wpAny_bind (wpAny_pure ?_)
    refine wpAny_bind (wpAny_tryCatch (wpAny_holding (wpAny_bind (hcmp (j + 1) (argBest bt j) v vb _ _ _ hP hPb (fun b o n1 n2 e => hk' b o n1 (h0s b o n1 n2 e)) ?_))))
    refine wpAny_bind (wpAny_holding (wpAny_truthy_bool ?_))
    refine wpAny_bind (wpAny_letGo (wpAny_pure ?_))
    cases hb : bt (j + 1) (argBest bt j) with
    | true =>
      refine wpAny_ite_true rfl ?_
      refine wpAny_bind (wpAny_updateSeq hS' rfl (wpAny_bind (wpAny_letGo ?_)) ?_ ?_)
      · dsimp only
        rw [hname]
        refine wpAny_pure ⟨plainId_quiet F.plain_max_loop _, ih (j + 1) _ v _ (by omega) hlt ?_ ?_ (Heap.get?_update_self _ hS' rfl) ?_ ?_⟩
        · exact W.frame _ _ _ hst' fun b hbf o e => (Heap.get?_update_other h' _ (fun h => hSf (by rw [h]; exact hbf))).trans e
        · simp only [argBest, hb, if_true]
          exact hP
        · exact fun b o n1 n2 e => (Heap.get?_update_other h' _ (Ne.symm n2)).trans (hk' b o n1 (h0s b o n1 n2 e))
        · exact fun v' h'' tk'' hP' hk'' => hR v' h'' tk'' hP' fun b o hbw hbS e => hk'' b o hbw hbS ((Heap.get?_update_other h' _ (Ne.symm hbS)).trans (hk' b o hbw e))
      · simp [sizeLine_eq]
      · simp [sizeLine_eq]
    | false =>
      refine wpAny_ite_false rfl ?_
      refine wpAny_bind (wpAny_letGo ?_)
      dsimp only
      rw [hname]
      refine wpAny_pure ⟨plainId_quiet F.plain_max_loop _, ih (j + 1) _ vb _ (by omega) hlt hst' ?_ hS' ?_ ?_⟩
      · simp only [argBest, hb, Bool.false_eq_true, if_false]
        exact hPb
      · exact fun b o n1 n2 e => hk' b o n1 (h0s b o n1 n2 e)
      · exact fun v' h'' tk'' hP' hk'' => hR v' h'' tk'' hP' fun b o hbw hbS e => hk'' b o hbw hbS (hk' b o hbw e)
theorem max_firstH {prog : Program} {w : World} {A : Around} {R : Result → Shared → Prop} {I : Addr} {fp wr : List Addr} {n : Nat} {P : Nat → Value → Prop} {St : Nat → Heap → Prop}
    (W : Walks prog w A.in1 I fp wr n P St) (bt : Nat → Nat → Bool) (S : Addr) {s : Shared} {c : Nat} (hcmp : CmpGtH prog w A.in1 s.heap wr S P bt) (hSf : ¬ S ∈ fp) (hn : 0 < n)
    (hst : St 0 s.heap) (hS : s.heap.get? S = some { cls := Value.type "list", data := Data.seq #[] c })
    (hR : ∀ (v : Value) (h' : Heap) (tk : Nat), P (argBest bt (n - 1)) v → (∀ (b : Addr) (o : Obj), ¬ b ∈ wr → b ≠ S → s.heap.get? b = some o → h'.get? b = some o) →
        R (Except.ok (Flow.ret v)) { heap := h', gens := s.gens, drawn := s.drawn, toks := tk, os := s.os }) :
      codeAny (model prog w) A (Code.builtin "max.loop" { pos := [Value.ref I, Value.none, Value.ref S] }) R s := by
  have hSw : ¬ S ∈ wr := fun h => hSf (W.sub S h)
  have hname : (toString "max" ++ toString ".loop") = "max.loop" := by decide
  refine codeAny_builtin F.entry_max_loop ?_
  rw [Around.under_plainId F.plain_max_loop]
  refine wpAny_bind (wpAny_seqItems hS rfl (wpAny_bind (wpAny_tryCatch (W.item 0 s _ _ hn hst fun v h' tk hP hst' hk' => ?_))))
  have hS' := hk' S _ hSw hS
  refine wpAny_bind (wpAny_pure ?_)
  refine wpAny_bind (wpAny_updateSeq hS' rfl ?_ ?_ ?_)
  · dsimp only
    rw [hname]
    refine wpAny_pure ⟨plainId_quiet F.plain_max_loop _, max_loopH W bt (h0 := s.heap) S hcmp hSf (n - (0 + 1)) 0 _ v _ rfl hn ?_ ?_ (Heap.get?_update_self _ hS' rfl) ?_ ?_⟩
    · exact W.frame _ _ _ hst' fun b hbf o e => (Heap.get?_update_other h' _ (fun h => hSf (by rw [h]; exact hbf))).trans e
    · exact hP
    · exact fun b o n1 n2 e => (Heap.get?_update_other h' _ (Ne.symm n2)).trans (hk' b o n1 e)
    · exact fun v' h'' tk'' hP' hk'' => hR v' h'' tk'' hP' fun b o hbw hbS e => hk'' b o hbw hbS ((Heap.get?_update_other h' _ (Ne.symm hbS)).trans (hk' b o hbw e))
  · simp [sizeLine_eq]
  · simp [sizeLine_eq]
/-- max of what is walked, compared by a comparison that reads the heap -/
theorem call_max_walkH {prog : Program} {w : World} {A : Around} {E : Value → Shared → Prop} {s : Shared} {x : Value} {Q : Value → Shared → Prop}
    (h : wpAny (model prog w) A.in1 (pyIter x) (fun it s₂ => ∃ I fp wr n P St bt, it = Value.ref I ∧ Walks prog w A.in1 I fp wr n P St ∧ St 0 s₂.heap ∧ (∀ (b : Addr), b ∈ fp → b < s₂.heap.objs.size) ∧ 0 < n ∧
      (∀ h₁ : Heap, (∀ (b : Addr) (o : Obj), s₂.heap.get? b = some o → h₁.get? b = some o) → CmpGtH prog w A.in1 h₁ wr s₂.heap.objs.size P bt) ∧
      ∀ (v : Value) (h' : Heap) (tk : Nat), P (argBest bt (n - 1)) v → (∀ (b : Addr) (o : Obj), ¬ b ∈ wr → s₂.heap.get? b = some o → h'.get? b = some o) →
        Q v { heap := h', gens := s₂.gens, drawn := s₂.drawn, toks := tk, os := s₂.os }) E s) : wpAny (model prog w) A (call (Value.builtin "max") [x]) Q E s := by
  have hname : (toString "max" ++ toString ".loop") = "max.loop" := by decide
  refine call_function_tree F.kind_max F.plain_max F.entry_max (F.args_max1 x) ?_
  refine wpAny_bind (wpAny_of_eq rfl (wpAny_bind (wpAny_pure (wpAny_bind (wpAny_mono h ?_ fun _ _ e => e)))))
  rintro it s₂ ⟨I, fp, wr, n, P, St, bt, rfl, W, hst, hfp, hn, hcmp, hQ⟩
  have hSf : ¬ s₂.heap.objs.size ∈ fp := fun hm => Nat.lt_irrefl _ (hfp _ hm)
  refine wpAny_bind (wpAny_newObj_type ?_ ?_)
  · dsimp only
    rw [hname]
    refine wpAny_pure ⟨plainId_quiet F.plain_max_loop _, max_firstH W bt s₂.heap.objs.size (hcmp _ fun b o e => Heap.get?_push_of_some _ e) hSf hn (W.frame 0 s₂.heap _ hst fun b x o e => Heap.get?_push_of_some _ e) (Heap.get?_push_size s₂.1 rfl) fun v h' tk hP hk => ?_⟩
    exact hQ v h' tk hP fun b o hbw e => hk b o hbw (Nat.ne_of_lt (Heap.lt_size e)) (Heap.get?_push_of_some _ e)
  · exact Nat.zero_le _
end SE
set_option Elab.async false
set_option linter.all false
set_option maxRecDepth 100000
set_option maxHeartbeats 1000000
namespace SE
open PySem L2
def intOp : CmpOp → Int → Int → Option Bool
  | .Lt, i, j => some (decide (i < j))
  | .LtE, i, j => some (decide (i ≤ j))
  | .Gt, i, j => some (decide (j < i))
  | .GtE, i, j => some (decide (j ≤ i))
  | _, _, _ => none
def endOp : CmpOp → Nat → Nat → Bool
  | .Lt, m, n => decide (m < n)
  | .LtE, m, n => decide (m ≤ n)
  | .Gt, m, n => decide (m > n)
  | _, m, n => decide (m ≥ n)
mutual
def ordD (op : CmpOp) : D → D → Option Bool
  | .int i, .int j => intOp op i j
  | .str a, .str b => match op with
    | .Lt => some (decide (a.cps.toList < b.cps.toList))
    | _ => none
  | .tuple xs, .tuple ys => ordDs op xs ys
  | _, _ => none
def ordDs (op : CmpOp) : List D → List D → Option Bool
  | [], ys => some (endOp op 0 ys.length)
  | x :: xs, [] => some (endOp op (xs.length + 1) 0)
  | x :: xs, y :: ys => (ordDs op xs ys).bind fun z => if PyData.eqv x y = true then some z else ordD op x y
end
theorem endOp_succ (op : CmpOp) (m n : Nat) : endOp op (m + 1) (n + 1) = endOp op m n := by
  unfold endOp
  cases op <;> exact decide_eq_decide.mpr (by omega)
def rAt (op : CmpOp) (xs ys : List D) (j : Nat) : Bool := match xs[j]?, ys[j]? with
  | some x, some y => (ordD op x y).getD false
  | _, _ => false
theorem lex_ord (op : CmpOp) : ∀ (xs ys : List D) (e r : Nat → Bool) (i : Nat) (b : Bool), (∀ j, j < xs.length → j < ys.length → e (i + j) = SeqAt.pairEq xs ys j) → (∀ j, r (i + j) = rAt op xs ys j) → ordDs op xs ys = some b →
    Ob.lexAt e r (endOp op xs.length ys.length) i (min xs.length ys.length) = b
  | [], ys, e, r, i, b, he, hr, h => by
    simp only [ordDs, Option.some.injEq] at h
    rw [List.length_nil, Nat.zero_min, Ob.lexAt_zero]
    exact h
  | x :: xs, [], e, r, i, b, he, hr, h => by
    simp only [ordDs, Option.some.injEq] at h
    rw [List.length_nil, Nat.min_zero, Ob.lexAt_zero, List.length_cons]
    exact h
  | x :: xs, y :: ys, e, r, i, b, he, hr, h => by
    simp only [ordDs] at h
    obtain ⟨z, hz, h⟩ := bind_some2 h
    rw [List.length_cons, List.length_cons, endOp_succ, Nat.succ_min_succ, Ob.lexAt_succ]
    have e0 := he 0 (by simp) (by simp)
    have r0 := hr 0
    rw [Nat.add_zero] at e0 r0
    have p0 : SeqAt.pairEq (x :: xs) (y :: ys) 0 = PyData.eqv x y := by simp [SeqAt.pairEq]
    rw [p0] at e0
    rw [e0]
    by_cases hc : PyData.eqv x y = true
    · rw [if_pos hc] at h ⊢
      have ez : z = b := Option.some.inj h
      rw [ez] at hz
      refine lex_ord op xs ys e r (i + 1) b (fun j h1 h2 => ?_) (fun j => ?_) hz
      · have := he (j + 1) (by simp; exact h1) (by simp; exact h2)
        rw [show i + 1 + j = i + (j + 1) by omega, this]
        simp [SeqAt.pairEq]
      · have := hr (j + 1)
        rw [show i + 1 + j = i + (j + 1) by omega, this]
        simp [rAt]
    · rw [if_neg hc] at h ⊢
      rw [r0]
      simp [rAt, h]
theorem reads_tuple {h : Heap} {v : Value} {xs : List D} {as : List Addr} (r : Reads h v (.tuple xs) as) : ∃ a vs, v = .ref a ∧ h.IsTuple a vs ∧ ReadsAll h vs.toList xs as := by
  cases r with
  | tuple h1 h2 h3 h4 => exact ⟨_, _, rfl, ⟨_, h1, h2, _, h3⟩, h4⟩
theorem readsAll_len {h : Heap} : ∀ {vs : List Value} {ds : List D} {as : List Addr}, ReadsAll h vs ds as → vs.length = ds.length
  | _, _, _, .nil => rfl
  | _, _, _, .cons _ r => by rw [List.length_cons, List.length_cons, readsAll_len r]
theorem rc_tuples {op : CmpOp} (hop : op = .Lt ∨ op = .LtE ∨ op = .Gt ∨ op = .GtE) {A : Around} {s : Shared} {l b : Addr} {items items2 : Array Value} {e r : Nat → Bool} (h1 : s.heap.IsTuple l items) (h2 : s.heap.IsTuple b items2) (hu : A.units < cLine)
    (he : ∀ (j : Nat) (h1 : j < items.size) (h2 : j < items2.size), SeqAt.EqAt A.in1 s items[j] items2[j] (e j))
    (hr : ∀ (j : Nat) (h1 : j < items.size) (h2 : j < items2.size), e j = false → Ob.RcOp op A.in1 s items[j] items2[j] (r j)) :
    Ob.RcOp op A s (.ref l) (.ref b) (Ob.lexAt e r (endOp op items.size items2.size) 0 (min items.size items2.size)) := by
  rcases hop with rfl | rfl | rfl | rfl
  · exact Ob.RcOp.tuples_lt h1 h2 hu he hr
  · exact Ob.RcOp.tuples_le h1 h2 hu he hr
  · exact Ob.RcOp.tuples_gt h1 h2 hu he hr
  · exact Ob.RcOp.tuples_ge h1 h2 hu he hr
theorem intOp_some {op : CmpOp} {i j : Int} {r : Bool} (h : intOp op i j = some r) : op = .Lt ∨ op = .LtE ∨ op = .Gt ∨ op = .GtE := by
  cases op <;> simp [intOp] at h <;> simp
theorem in1_units (A : Around) : A.in1.units = A.units + 1 := rfl
mutual
theorem ord_reads {op : CmpOp} (hop : op = .Lt ∨ op = .LtE ∨ op = .Gt ∨ op = .GtE) : ∀ (da db : D) (A : Around) (s : Shared) (a b : Value) (as bs : List Addr) (r : Bool), Reads s.heap a da as → Reads s.heap b db bs → da.canLay0 = true → db.canLay0 = true → A.units + min da.depth db.depth < cLine →
    ordD op da db = some r → Ob.RcOp op A s a b r
  | .int i, .int j, A, s, a, b, as, bs, r, ra, rb, _, _, _, h => by
    cases ra
    cases rb
    simp only [ordD] at h
    rcases hop with rfl | rfl | rfl | rfl <;> cases h
    · exact Ob.RcOp.lt_int _ _ _ _
    · exact Ob.RcOp.le_int _ _ _ _
    · exact Ob.RcOp.gt_int _ _ _ _
    · exact Ob.RcOp.ge_int _ _ _ _
  | .str i, .str j, A, s, a, b, as, bs, r, ra, rb, _, _, _, h => by
    cases ra
    cases rb
    simp only [ordD] at h
    rcases hop with rfl | rfl | rfl | rfl <;> cases h
    exact fun prog w E Q q => P.lt_str q
  | .tuple xs, .tuple ys, A, s, a, b, as, bs, r, ra, rb, la, lb, hu, h => by
    obtain ⟨p, vs, e1, t1, r1⟩ := reads_tuple ra
    obtain ⟨q, ws, e2, t2, r2⟩ := reads_tuple rb
    subst e1 e2
    simp only [ordD] at h
    simp only [PyData.canLay0] at la lb
    simp only [PyData.depth] at hu
    have n1 := readsAll_len r1
    have n2 := readsAll_len r2
    rw [Array.length_toList] at n1 n2
    have hu1 : A.in1.units + min (PyData.depthAll xs) (PyData.depthAll ys) < cLine := by rw [in1_units]; omega
    have hu0 : A.units < cLine := by omega
    have key := rc_tuples (A := A) (e := SeqAt.pairEq xs ys) (r := rAt op xs ys) hop t1 t2 hu0 (fun j h1 h2 => by
      have := SeqAt.eqAt_readsAll xs ys A.in1 s _ _ _ _ r1 r2 la lb hu1 j (by simpa using h1) (by simpa using h2)
      simpa using this) (fun j h1 h2 he => by
      have := ord_readsAll hop xs ys A.in1 s _ _ _ _ r r1 r2 la lb hu1 h j (by simpa using h1) (by simpa using h2) he
      simpa using this)
    rw [n1, n2, lex_ord op xs ys _ _ 0 r (fun j _ _ => by rw [Nat.zero_add]) (fun j => by rw [Nat.zero_add]) h] at key
    exact key
  | .none, _, A, s, a, b, as, bs, r, ra, rb, la, lb, hu, h => by simp [ordD] at h
  | .bool _, _, A, s, a, b, as, bs, r, ra, rb, la, lb, hu, h => by simp [ordD] at h
  | .list _, _, A, s, a, b, as, bs, r, ra, rb, la, lb, hu, h => by simp [ordD] at h
  | .dict _, _, A, s, a, b, as, bs, r, ra, rb, la, lb, hu, h => by simp [ordD] at h
  | .int _, .none, A, s, a, b, as, bs, r, ra, rb, la, lb, hu, h => by simp [ordD] at h
  | .int _, .bool _, A, s, a, b, as, bs, r, ra, rb, la, lb, hu, h => by simp [ordD] at h
  | .int _, .str _, A, s, a, b, as, bs, r, ra, rb, la, lb, hu, h => by simp [ordD] at h
  | .int _, .list _, A, s, a, b, as, bs, r, ra, rb, la, lb, hu, h => by simp [ordD] at h
  | .int _, .tuple _, A, s, a, b, as, bs, r, ra, rb, la, lb, hu, h => by simp [ordD] at h
  | .int _, .dict _, A, s, a, b, as, bs, r, ra, rb, la, lb, hu, h => by simp [ordD] at h
  | .str _, .none, A, s, a, b, as, bs, r, ra, rb, la, lb, hu, h => by simp [ordD] at h
  | .str _, .bool _, A, s, a, b, as, bs, r, ra, rb, la, lb, hu, h => by simp [ordD] at h
  | .str _, .int _, A, s, a, b, as, bs, r, ra, rb, la, lb, hu, h => by simp [ordD] at h
  | .str _, .list _, A, s, a, b, as, bs, r, ra, rb, la, lb, hu, h => by simp [ordD] at h
  | .str _, .tuple _, A, s, a, b, as, bs, r, ra, rb, la, lb, hu, h => by simp [ordD] at h
  | .str _, .dict _, A, s, a, b, as, bs, r, ra, rb, la, lb, hu, h => by simp [ordD] at h
  | .tuple _, .none, A, s, a, b, as, bs, r, ra, rb, la, lb, hu, h => by simp [ordD] at h
  | .tuple _, .bool _, A, s, a, b, as, bs, r, ra, rb, la, lb, hu, h => by simp [ordD] at h
  | .tuple _, .int _, A, s, a, b, as, bs, r, ra, rb, la, lb, hu, h => by simp [ordD] at h
  | .tuple _, .str _, A, s, a, b, as, bs, r, ra, rb, la, lb, hu, h => by simp [ordD] at h
  | .tuple _, .list _, A, s, a, b, as, bs, r, ra, rb, la, lb, hu, h => by simp [ordD] at h
  | .tuple _, .dict _, A, s, a, b, as, bs, r, ra, rb, la, lb, hu, h => by simp [ordD] at h
theorem ord_readsAll {op : CmpOp} (hop : op = .Lt ∨ op = .LtE ∨ op = .Gt ∨ op = .GtE) : ∀ (xs ys : List D) (A : Around) (s : Shared) (vs ws : List Value) (as bs : List Addr) (r : Bool), ReadsAll s.heap vs xs as → ReadsAll s.heap ws ys bs → PyData.canLayAll0 xs = true → PyData.canLayAll0 ys = true →
    A.units + min (PyData.depthAll xs) (PyData.depthAll ys) < cLine → ordDs op xs ys = some r → ∀ (j : Nat) (h1 : j < vs.length) (h2 : j < ws.length), SeqAt.pairEq xs ys j = false → Ob.RcOp op A s vs[j] ws[j] (rAt op xs ys j)
  | [], ys, A, s, vs, ws, as, bs, r, ra, rb, la, lb, hu, h, j, h1, h2, he => by
    have := readsAll_len ra
    simp at this
    subst this
    simp at h1
  | x :: xs, [], A, s, vs, ws, as, bs, r, ra, rb, la, lb, hu, h, j, h1, h2, he => by
    have := readsAll_len rb
    simp at this
    subst this
    simp at h2
  | x :: xs, y :: ys, A, s, vs, ws, as, bs, r, ra, rb, la, lb, hu, h, j, h1, h2, he => by
    cases ra with
    | cons ra1 ra2 =>
      cases rb with
      | cons rb1 rb2 =>
        simp only [PyData.canLayAll0, Bool.and_eq_true] at la lb
        simp only [PyData.depthAll] at hu
        simp only [ordDs] at h
        obtain ⟨z, hz, h⟩ := bind_some2 h
        cases j with
        | zero =>
          have p0 : SeqAt.pairEq (x :: xs) (y :: ys) 0 = PyData.eqv x y := by simp [SeqAt.pairEq]
          rw [p0] at he
          rw [if_neg (by rw [he]; exact Bool.false_ne_true)] at h
          have := ord_reads hop x y A s _ _ _ _ r ra1 rb1 la.1 lb.1 (by omega) h
          simpa [rAt, h] using this
        | succ j =>
          have p0 : SeqAt.pairEq (x :: xs) (y :: ys) (j + 1) = SeqAt.pairEq xs ys j := by simp [SeqAt.pairEq]
          rw [p0] at he
          have := ord_readsAll hop xs ys A s _ _ _ _ z ra2 rb2 la.2 lb.2 (by omega) hz j (by simpa using h1) (by simpa using h2) he
          simpa [rAt] using this
end
end SE
set_option Elab.async false
set_option linter.all false
set_option maxRecDepth 100000
set_option maxHeartbeats 1000000
namespace SE
open PySem L2
def isLt : CmpOp → Bool
  | .Lt => true
  | _ => false
mutual
/-- of one kind -/
def like (op : CmpOp) : D → D → Bool
  | .int _, .int _ => true
  | .str _, .str _ => isLt op
  | .tuple xs, .tuple ys => likes op xs ys
  | _, _ => false
def likes (op : CmpOp) : List D → List D → Bool
  | [], [] => true
  | x :: xs, y :: ys => like op x y && likes op xs ys
  | _, _ => false
end
theorem intOp_all {op : CmpOp} (hop : op = .Lt ∨ op = .LtE ∨ op = .Gt ∨ op = .GtE) (i j : Int) : ∃ b, intOp op i j = some b := by
  rcases hop with rfl | rfl | rfl | rfl <;> exact ⟨_, rfl⟩
mutual
theorem like_ord {op : CmpOp} (hop : op = .Lt ∨ op = .LtE ∨ op = .Gt ∨ op = .GtE) : ∀ (x y z : D), like op x y = true → like op x z = true → ∃ b, ordD op y z = some b
  | .int i, y, z, h1, h2 => by
    cases y <;> simp only [like] at h1 <;> first | cases h1 | skip
    cases z <;> simp only [like] at h2 <;> first | cases h2 | skip
    simp only [ordD]
    exact intOp_all hop _ _
  | .str i, y, z, h1, h2 => by
    cases y <;> simp only [like] at h1 <;> first | cases h1 | skip
    cases z <;> simp only [like] at h2 <;> first | cases h2 | skip
    rcases hop with rfl | rfl | rfl | rfl <;> first | exact ⟨_, rfl⟩ | cases h1
  | .tuple xs, y, z, h1, h2 => by
    cases y <;> simp only [like] at h1 <;> first | cases h1 | skip
    cases z <;> simp only [like] at h2 <;> first | cases h2 | skip
    simp only [ordD]
    exact likes_ord hop xs _ _ h1 h2
  | .none, y, z, h1, h2 => by cases y <;> simp [like] at h1
  | .bool _, y, z, h1, h2 => by cases y <;> simp [like] at h1
  | .list _, y, z, h1, h2 => by cases y <;> simp [like] at h1
  | .dict _, y, z, h1, h2 => by cases y <;> simp [like] at h1
theorem likes_ord {op : CmpOp} (hop : op = .Lt ∨ op = .LtE ∨ op = .Gt ∨ op = .GtE) : ∀ (xs ys zs : List D), likes op xs ys = true → likes op xs zs = true → ∃ b, ordDs op ys zs = some b
  | [], ys, zs, h1, h2 => by
    cases ys with
    | nil => exact ⟨_, rfl⟩
    | cons _ _ => simp [likes] at h1
  | x :: xs, [], zs, h1, h2 => by simp [likes] at h1
  | x :: xs, y :: ys, [], h1, h2 => by simp [likes] at h2
  | x :: xs, y :: ys, z :: zs, h1, h2 => by
    simp only [likes, Bool.and_eq_true] at h1 h2
    obtain ⟨b, hb⟩ := likes_ord hop xs ys zs h1.2 h2.2
    obtain ⟨c, hc⟩ := like_ord hop x y z h1.1 h2.1
    simp only [ordDs, hb, Option.bind_some]
    by_cases q : PyData.eqv y z = true
    · exact ⟨_, if_pos q⟩
    · exact ⟨c, by rw [if_neg q]; exact hc⟩
end
/-- the best so far -/
def better (op : CmpOp) (b x : D) : D := if (ordD op x b).getD false = true then x else b
def bestD (op : CmpOp) : List D → Option D
  | [] => none
  | d :: ds => if (d :: ds).all (fun x => like op d x && SeqAt.shaped x) = true then some (ds.foldl (better op) d) else none
def bt (op : CmpOp) (ds : List D) (i j : Nat) : Bool := match ds[i]?, ds[j]? with
  | some x, some y => (ordD op x y).getD false
  | _, _ => false
theorem bt_eq {op : CmpOp} {ds : List D} {i j : Nat} {x y : D} (h1 : ds[i]? = some x) (h2 : ds[j]? = some y) : bt op ds i j = (ordD op x y).getD false := by
  unfold bt
  rw [h1, h2]
theorem foldl_take {op : CmpOp} (d : D) (ds : List D) : ∀ k, k ≤ ds.length → (d :: ds)[argBest (bt op (d :: ds)) k]? = some ((ds.take k).foldl (better op) d)
  | 0, _ => by simp [argBest]
  | k + 1, h => by
    have ih := foldl_take (op := op) d ds k (by omega)
    have hk : k < ds.length := h
    have e1 : ds.take (k + 1) = ds.take k ++ [ds[k]] := by rw [List.take_succ, List.getElem?_eq_getElem hk]; rfl
    have e2 : (d :: ds)[k + 1]? = some ds[k] := by rw [List.getElem?_cons_succ, List.getElem?_eq_getElem hk]
    rw [e1, List.foldl_append, List.foldl_cons, List.foldl_nil]
    simp only [argBest]
    rw [bt_eq e2 ih]
    generalize List.foldl (better op) d (List.take k ds) = y at ih ⊢
    unfold better
    by_cases q : (ordD op ds[k] y).getD false = true
    · rw [if_pos q, if_pos q]
      exact e2
    · rw [if_neg q, if_neg q]
      exact ih
section
variable {X : Cx} {pins : List (Addr × Obj)} {σ : L2.St} {H : Hp} {s : Shared}
theorem push_sz {h : Heap} {o : Obj} : (h.push o).objs.size = h.objs.size + 1 := by simp [Heap.push]
/-- a list or a tuple is walked -/
theorem seq_iter {A : Around} (I : L2.Inv X pins σ H s) (hd : A.handled = none) {p : Addr} {vs : List V} (h : SqL X.K H p vs ∨ SqT X.K H p vs) :
    ∃ its, Vals vs its ∧ its.length ≤ sizeLine ∧ ∀ (E Q : Value → Shared → Prop),
      (∀ (s₂ : Shared) (fp : List Addr) (St : Nat → Heap → Prop), Walks X.prog X.w A s.heap.objs.size fp [s.heap.objs.size] its.length (fun i v => its[i]? = some v) St → St 0 s₂.heap → (∀ (b : Addr), b ∈ fp → b < s₂.heap.objs.size) →
        (∀ (b : Addr) (o : Obj), s.heap.get? b = some o → s₂.heap.get? b = some o) → s.heap.objs.size < s₂.heap.objs.size → s₂.gens = s.gens → s₂.drawn = s.drawn → s₂.os = s.os → Q (.ref s.heap.objs.size) s₂) →
      wpAny (model X.prog X.w) A (pyIter (.ref p)) Q E s := by
  rcases h with h | h
  · obtain ⟨its, r1, pl, w1⟩ := I.list h
    have e1 := Vals.length r1
    refine ⟨its, r1, by omega, fun E Q k => iter_any (PlainL.isList pl) fun s₂ e2 st hne => ?_⟩
    have W := Walks.list (prog := X.prog) (w := X.w) hd s.heap.objs.size p hne its.toArray
    have W' : Walks X.prog X.w A s.heap.objs.size [s.heap.objs.size, p] [s.heap.objs.size] its.length (fun i v => its[i]? = some v) (fun i h => h.IsListIter s.heap.objs.size p i ∧ h.IsList p its.toArray) := by simpa using W
    subst e2
    refine k _ _ _ W' st (fun b hb => ?_) (fun b o e => Heap.get?_push_of_some _ e) (by simp [Heap.push]) rfl rfl rfl
    simp only [List.mem_cons, List.not_mem_nil, or_false] at hb
    have : p < s.heap.objs.size := by
      obtain ⟨o, n, h1, _⟩ := pl
      exact Heap.lt_size h1
    show b < (s.heap.push _).objs.size
    rw [push_sz]
    rcases hb with rfl | rfl
    · exact Nat.lt_succ_self _
    · exact Nat.lt_succ_of_lt this
  · obtain ⟨its, r1, pl, w1⟩ := I.tuple h
    have e1 := Vals.length r1
    refine ⟨its, r1, by omega, fun E Q k => PyProof.Rows.iter_tuple pl ?_⟩
    have lt : p < s.heap.objs.size := by
      obtain ⟨o, h1, _⟩ := pl
      exact Heap.lt_size h1
    have W := Walks.tuple (prog := X.prog) (w := X.w) hd s.heap.objs.size p (Nat.ne_of_lt lt) its.toArray
    have W' : Walks X.prog X.w A s.heap.objs.size [s.heap.objs.size, p] [s.heap.objs.size] its.length (fun i v => its[i]? = some v) (fun i h => h.IsTupleIter s.heap.objs.size p i ∧ h.IsTuple p its.toArray) := by simpa using W
    refine k _ _ _ W' ⟨⟨_, Heap.get?_push_size _ rfl, rfl, rfl⟩, ?_⟩ (fun b hb => ?_) (fun b o e => Heap.get?_push_of_some _ e) (by simp [Heap.push]) rfl rfl rfl
    · obtain ⟨o, h1, h2⟩ := pl
      exact ⟨o, Heap.get?_push_of_some _ h1, h2⟩
    · simp only [List.mem_cons, List.not_mem_nil, or_false] at hb
      show b < (s.heap.push _).objs.size
      rw [push_sz]
      rcases hb with rfl | rfl
      · exact Nat.lt_succ_self _
      · exact Nat.lt_succ_of_lt lt
end
end SE
set_option Elab.async false
set_option linter.all false
set_option maxRecDepth 100000
set_option maxHeartbeats 1000000
namespace SE
open PySem L2
section
variable {X : Cx}
theorem rpis_one {K : PySem.W.Frag} {M : Addr → Prop} {H : Hp} {d : D} {vs : List V} (h : RpIs K M H [d] vs) : ∃ v, vs = [v] ∧ RpI K M H d v := by
  obtain ⟨v, ws, e, a, b⟩ := h
  cases (show ws = [] from b)
  exact ⟨v, e, a⟩
theorem rpis_two {K : PySem.W.Frag} {M : Addr → Prop} {H : Hp} {d e : D} {vs : List V} (h : RpIs K M H [d, e] vs) : ∃ v w, vs = [v, w] ∧ RpI K M H d v ∧ RpI K M H e w := by
  obtain ⟨v, ws, e1, a, b⟩ := h
  obtain ⟨w, e2, c⟩ := rpis_one b
  exact ⟨v, w, by rw [e1, e2], a, c⟩
def f1 (f : D → Option R) : List D → Option R
  | [d] => f d
  | _ => none
theorem call1 {f : Value} {g : D → Option R} (h : ∀ d q, g d = some q → ∃ r, CallR X f r ∧ ∀ M v H Q, MIn M H → RpI X.K M H d v → (∀ z H', Ext H H' → NewR X.K M H H' q z → Q z H') → r [v] H Q) : CallR X f (rDs X.K (f1 g)) := CallR.best fun xs H Q hh => by
  obtain ⟨M, ds, q, m, hu, hf, k⟩ := hh
  unfold f1 at hf
  split at hf
  · obtain ⟨v, e, hv⟩ := rpis_one hu
    subst e
    obtain ⟨r, a, b⟩ := h _ _ hf
    exact ⟨r, a, b M v H Q m hv k⟩
  · cases hf
def gLen : D → Option R
  | .list ds => some (.va (.int ds.length))
  | .tuple ds => some (.va (.int ds.length))
  | .str s => if s.length ≤ lim then some (.va (.int s.length)) else none
  | _ => none
theorem cr_len' : CallR X (.builtin "len") (rDs X.K (f1 gLen)) := call1 fun d q hf => by
  unfold gLen at hf
  split at hf
  · cases hf
    refine ⟨_, call_len, fun M v H Q m hv k => ?_⟩
    obtain ⟨a, vs, e1, l1, r1⟩ := hv
    subst e1
    refine ⟨_, vs.length, rfl, .inl ⟨vs, l1, rfl⟩, ?_⟩
    rw [← r1.length]
    exact k _ H (Ext.refl H) nw_int
  · cases hf
    refine ⟨_, call_len, fun M v H Q m hv k => ?_⟩
    obtain ⟨a, vs, e1, l1, r1⟩ := hv
    subst e1
    refine ⟨_, vs.length, rfl, .inr ⟨vs, l1, rfl⟩, ?_⟩
    rw [← r1.length]
    exact k _ H (Ext.refl H) nw_int
  · obtain ⟨hl, e⟩ := ite_some hf
    subst e
    refine ⟨_, call_len, fun M v H Q m hv k => ?_⟩
    have := rpi_str hv
    subst this
    exact ⟨_, _, rfl, ⟨sizeLim hl, rfl⟩, k _ H (Ext.refl H) nw_int⟩
  · cases hf
def gAbs : D → Option R
  | .int i => some (.va (.int i.natAbs))
  | _ => none
theorem cr_abs' : CallR X (.builtin "abs") (rDs X.K (f1 gAbs)) := call1 fun d q hf => by
  unfold gAbs at hf
  split at hf
  · rename_i i
    cases hf
    refine ⟨_, call_abs, fun M v H Q m hv k => ?_⟩
    have := rpi_int hv
    subst this
    refine ⟨_, rfl, ?_⟩
    have : (if i < 0 then -i else i) = (i.natAbs : Int) := by split <;> omega
    rw [this]
    exact k _ H (Ext.refl H) nw_int
  · cases hf
def gInt : D → Option R
  | .int i => some (.va (.int i))
  | .bool b => some (.va (.int (if b = true then 1 else 0)))
  | _ => none
theorem cr_int' : CallR X (.type "int") (rDs X.K (f1 gInt)) := call1 fun d q hf => by
  unfold gInt at hf
  split at hf
  · cases hf
    refine ⟨_, call_int1, fun M v H Q m hv k => ?_⟩
    have := rpi_int hv
    subst this
    exact .inl ⟨_, rfl, k _ H (Ext.refl H) nw_int⟩
  · cases hf
    refine ⟨_, call_int1, fun M v H Q m hv k => ?_⟩
    have := rpi_bool hv
    subst this
    exact .inr ⟨_, rfl, k _ H (Ext.refl H) nw_int⟩
  · cases hf
def gTuple : D → Option R
  | .list ds => some (.va (.tuple ds))
  | .tuple ds => some (.va (.tuple ds))
  | _ => none
theorem cr_tuple' : CallR X (.type "tuple") (rDs X.K (f1 gTuple)) := call1 fun d q hf => by
  unfold gTuple at hf
  split at hf
  · cases hf
    refine ⟨_, call_tuple_of, fun M v H Q m hv k => ?_⟩
    obtain ⟨a, vs, e1, l1, r1⟩ := hv
    subst e1
    exact ⟨a, vs, rfl, .inl ⟨l1, fun p hp => k _ _ (Ext.new hp) (nw_tup m hp r1)⟩⟩
  · cases hf
    refine ⟨_, call_tuple_of, fun M v H Q m hv k => ?_⟩
    obtain ⟨a, vs, e1, l1, r1⟩ := hv
    subst e1
    exact ⟨a, vs, rfl, .inr ⟨l1, k _ H (Ext.refl H) (nw_same m l1 r1)⟩⟩
  · cases hf
def gList : D → Option R
  | .list ds => some (.nw (.list ds))
  | .tuple ds => some (.nw (.list ds))
  | _ => none
theorem cr_list' : CallR X (.type "list") (rDs X.K (f1 gList)) := call1 fun d q hf => by
  unfold gList at hf
  split at hf
  · cases hf
    refine ⟨_, call_list_of, fun M v H Q m hv k => ?_⟩
    obtain ⟨a, vs, e1, l1, r1⟩ := hv
    subst e1
    exact ⟨a, vs, rfl, .inl l1, fun p hp => k _ _ (Ext.new hp) (nw_list hp r1)⟩
  · cases hf
    refine ⟨_, call_list_of, fun M v H Q m hv k => ?_⟩
    obtain ⟨a, vs, e1, l1, r1⟩ := hv
    subst e1
    exact ⟨a, vs, rfl, .inr l1, fun p hp => k _ _ (Ext.new hp) (nw_list hp r1)⟩
  · cases hf
def asInts : List D → Option (List Int)
  | [] => some []
  | .int i :: ds => (asInts ds).map fun is => i :: is
  | _ => none
theorem asInts_eq : ∀ {ds : List D} {ns : List Int}, asInts ds = some ns → ds = ns.map PyData.int
  | [], ns, h => by cases h; rfl
  | d :: ds, ns, h => by
    cases d <;> simp only [asInts] at h <;> first | cases h | skip
    obtain ⟨is, h1, h2⟩ := Option.map_eq_some_iff.mp h
    rw [← h2, asInts_eq h1]
    rfl
def asBools : List D → Option (List Bool)
  | [] => some []
  | .bool i :: ds => (asBools ds).map fun is => i :: is
  | _ => none
theorem asBools_eq : ∀ {ds : List D} {ns : List Bool}, asBools ds = some ns → ds = ns.map PyData.bool
  | [], ns, h => by cases h; rfl
  | d :: ds, ns, h => by
    cases d <;> simp only [asBools] at h <;> first | cases h | skip
    obtain ⟨is, h1, h2⟩ := Option.map_eq_some_iff.mp h
    rw [← h2, asBools_eq h1]
    rfl
/-- a value is a list or a tuple that is read -/
def SqR (K : PySem.W.Frag) (H : Hp) (a : Addr) (vs : List V) : Prop := SqL K H a vs ∨ SqT K H a vs
theorem rpi_items {K : PySem.W.Frag} {M : Addr → Prop} {H : Hp} {d : D} {ds : List D} {v : V} (h : RpI K M H d v) (e : items d = some ds) : ∃ a vs, v = .ref a ∧ SqR K H a vs ∧ RpL K M H ds vs := by
  cases d <;> simp only [items] at e <;> first | cases e | skip
  · obtain ⟨a, vs, e1, l1, r1⟩ := h
    exact ⟨a, vs, e1, .inl l1, r1⟩
  · obtain ⟨a, vs, e1, l1, r1⟩ := h
    exact ⟨a, vs, e1, .inr l1, r1⟩
theorem in1_hd {A : Around} : A.in1.handled = A.handled := rfl
theorem grown {s s₂ : Shared} {n : Addr} {h' : Heap} (hn : s.heap.objs.size = n) (e2 : ∀ (b : Addr) (o : Obj), s.heap.get? b = some o → s₂.heap.get? b = some o) (k : ∀ (b : Addr) (o : Obj), ¬ b ∈ [n] → s₂.heap.get? b = some o → h'.get? b = some o) :
    ∀ (b : Addr) (o : Obj), s.heap.get? b = some o → h'.get? b = some o := fun b o e => k b o (fun z => by
    simp only [List.mem_cons, List.not_mem_nil, or_false] at z
    have := Heap.lt_size e
    rw [hn, z] at this
    exact Nat.lt_irrefl _ this) (e2 b o e)
theorem preSum_take (ns : List Int) : ∀ k, preSum (fun i => ns.getD i 0) k = (ns.take k).sum
  | 0 => by simp [preSum]
  | k + 1 => by
    have ih := preSum_take ns k
    rw [List.take_succ, List.sum_append]
    simp only [preSum]
    rw [ih]
    cases h : ns[k]? with
    | none => simp [List.getD, h]
    | some x => simp [List.getD, h]
theorem cr_sumR (hc : X.calm = true) : CallR X (.builtin "sum") (fun xs H Q => ∃ (a : Addr) (ns : List Int), xs = [V.ref a] ∧ SqR X.K H a (ns.map V.int) ∧ Q (.int ns.sum) H) := by
  rintro pins s σ H xs us Q I r ⟨a, ns, rfl, h, q⟩
  rw [Vals.ref1 r]
  obtain ⟨its, r1, hl, W⟩ := seq_iter (A := X.A.in1) I (by rw [in1_hd]; exact I.ok.hd hc) h
  have hi := Vals.ints r1
  refine call_sum_walkG (W _ _ fun s₂ fp St Wk st fpl e2 e3 e4 e5 e6 => ⟨_, fp, _, its.length, _, St, fun i => ns.getD i 0, rfl, Wk, st, fpl, fun i v hv => ?_, fun h' tk t' hk => ?_⟩)
  · have := PyProof.Rows.IntsAre.int_at hi i v (by simpa using hv)
    exact this
  · have e1 := Vals.length r1
    rw [List.length_map] at e1
    have ep : preSum (fun i => ns.getD i 0) its.length = ns.sum := by
      rw [preSum_take, ← e1, List.take_length]
    rw [ep, e4, e5, e6]
    exact ⟨.int ns.sum, H, I.kept (grown rfl e2 hk), ⟨t', rfl⟩, q⟩
def gSum (d : D) : Option R := (items d).bind fun ds => (asInts ds).map fun ns => .va (.int ns.sum)
theorem cr_sum' (hc : X.calm = true) : CallR X (.builtin "sum") (rDs X.K (f1 gSum)) := call1 fun d q hf => by
  unfold gSum at hf
  obtain ⟨ds, hd, hf⟩ := bind_some2 hf
  obtain ⟨ns, hn, e⟩ := Option.map_eq_some_iff.mp hf
  subst e
  refine ⟨_, cr_sumR hc, fun M v H Q m hv k => ?_⟩
  obtain ⟨a, vs, e1, l1, r1⟩ := rpi_items hv hd
  rw [asInts_eq hn] at r1
  rw [r1.ints] at l1
  exact ⟨a, ns, by rw [e1], l1, k _ H (Ext.refl H) nw_int⟩
theorem cr_allR (hc : X.calm = true) : CallR X (.builtin "all") (fun xs H Q => ∃ (a : Addr) (bs : List Bool), xs = [V.ref a] ∧ SqR X.K H a (bs.map V.bl) ∧ Q (.bl (bs.all id)) H) := by
  rintro pins s σ H xs us Q I r ⟨a, bs, rfl, h, q⟩
  rw [Vals.ref1 r]
  obtain ⟨its, r1, hl, W⟩ := seq_iter (A := X.A.in1) I (by rw [in1_hd]; exact I.ok.hd hc) h
  have hb := Vals.bls r1
  refine call_all_walk (W _ _ fun s₂ fp St Wk st fpl e2 e3 e4 e5 e6 => ⟨_, fp, _, its.length, _, St, fun i => bs.getD i false, rfl, Wk, st, ?_, fun h' tk hk => ?_⟩)
  · have := truth_bools (prog := X.prog) (w := X.w) (A := X.A.in1) hb
    simpa using this
  · have e1 := Vals.length r1
    rw [List.length_map] at e1
    rw [e4, e5, e6]
    refine ⟨.bl (bs.all id), H, I.kept (grown rfl e2 hk), ?_, q⟩
    show Value.bool _ = Value.bool _
    rw [← e1, all_range bs]
theorem cr_anyR (hc : X.calm = true) : CallR X (.builtin "any") (fun xs H Q => ∃ (a : Addr) (bs : List Bool), xs = [V.ref a] ∧ SqR X.K H a (bs.map V.bl) ∧ Q (.bl (bs.any id)) H) := by
  rintro pins s σ H xs us Q I r ⟨a, bs, rfl, h, q⟩
  rw [Vals.ref1 r]
  obtain ⟨its, r1, hl, W⟩ := seq_iter (A := X.A.in1) I (by rw [in1_hd]; exact I.ok.hd hc) h
  have hb := Vals.bls r1
  refine call_any_walk (W _ _ fun s₂ fp St Wk st fpl e2 e3 e4 e5 e6 => ⟨_, fp, _, its.length, _, St, fun i => bs.getD i false, rfl, Wk, st, ?_, fun h' tk hk => ?_⟩)
  · have := truth_bools (prog := X.prog) (w := X.w) (A := X.A.in1) hb
    simpa using this
  · have e1 := Vals.length r1
    rw [List.length_map] at e1
    rw [e4, e5, e6]
    refine ⟨.bl (bs.any id), H, I.kept (grown rfl e2 hk), ?_, q⟩
    show Value.bool _ = Value.bool _
    rw [← e1, any_range bs]
def gAll (d : D) : Option R := (items d).bind fun ds => (asBools ds).map fun ns => .va (.bool (ns.all id))
theorem cr_all' (hc : X.calm = true) : CallR X (.builtin "all") (rDs X.K (f1 gAll)) := call1 fun d q hf => by
  unfold gAll at hf
  obtain ⟨ds, hd, hf⟩ := bind_some2 hf
  obtain ⟨ns, hn, e⟩ := Option.map_eq_some_iff.mp hf
  subst e
  refine ⟨_, cr_allR hc, fun M v H Q m hv k => ?_⟩
  obtain ⟨a, vs, e1, l1, r1⟩ := rpi_items hv hd
  rw [asBools_eq hn] at r1
  rw [r1.bools] at l1
  exact ⟨a, ns, by rw [e1], l1, k _ H (Ext.refl H) nw_bool⟩
def gAny (d : D) : Option R := (items d).bind fun ds => (asBools ds).map fun ns => .va (.bool (ns.any id))
theorem cr_any' (hc : X.calm = true) : CallR X (.builtin "any") (rDs X.K (f1 gAny)) := call1 fun d q hf => by
  unfold gAny at hf
  obtain ⟨ds, hd, hf⟩ := bind_some2 hf
  obtain ⟨ns, hn, e⟩ := Option.map_eq_some_iff.mp hf
  subst e
  refine ⟨_, cr_anyR hc, fun M v H Q m hv k => ?_⟩
  obtain ⟨a, vs, e1, l1, r1⟩ := rpi_items hv hd
  rw [asBools_eq hn] at r1
  rw [r1.bools] at l1
  exact ⟨a, ns, by rw [e1], l1, k _ H (Ext.refl H) nw_bool⟩
theorem vals_at : ∀ {vs : List V} {us : List Value} {i : Nat} {w : V}, Vals vs us → vs[i]? = some w → ∃ u, us[i]? = some u ∧ L2.RelV w u
  | _, _, i, w, .nil, h => by simp at h
  | _, _, 0, w, .cons a r, h => by
    simp at h
    subst h
    exact ⟨_, rfl, a⟩
  | _, _, i + 1, w, .cons a r, h => by
    obtain ⟨u, h1, h2⟩ := vals_at (i := i) r (by simpa using h)
    exact ⟨u, by simpa using h1, h2⟩

theorem cr_minR (hc : X.calm = true) (hu : X.A.units + 66 < cLine) : CallR X (.builtin "min") (fun xs H Q => ∃ (M : Addr → Prop) (a : Addr) (vs : List V) (ds : List D) (z : D), xs = [V.ref a] ∧ SqR X.K H a vs ∧ RpL X.K M H ds vs ∧ bestD .Lt ds = some z ∧ ∀ w, Rp X.K M H z w → Q w H) := by
  rintro pins s σ H xs us Q I r ⟨M, a, vs, ds, z, rfl, h, rl, hz, q⟩
  rw [Vals.ref1 r]
  obtain ⟨its, r1, hl, W⟩ := seq_iter (A := X.A.in1) I (by rw [in1_hd]; exact I.ok.hd hc) h
  cases ds with
  | nil => cases hz
  | cons d ds =>
    unfold bestD at hz
    obtain ⟨hall, ez⟩ := ite_some hz
    rw [List.all_eq_true] at hall
    have len1 := rl.length
    have len2 := Vals.length r1
    have hop : CmpOp.Lt = .Lt ∨ CmpOp.Lt = .LtE ∨ CmpOp.Lt = .Gt ∨ CmpOp.Lt = .GtE := by simp
    -- each item is read
    have rd : ∀ (i : Nat) (v : Value), its[i]? = some v → ∃ x as, (d :: ds)[i]? = some x ∧ Reads s.heap v x as ∧ like .Lt d x = true ∧ SeqAt.shaped x = true := fun i v hv => by
      have hi : i < (d :: ds).length := by
        have := (List.getElem?_eq_some_iff.mp hv).1
        omega
      have e1 : (d :: ds)[i]? = some (d :: ds)[i] := List.getElem?_eq_getElem hi
      obtain ⟨w, h1, h2⟩ := rl.get e1
      have hs := hall _ (List.getElem_mem hi)
      simp only [Bool.and_eq_true] at hs
      obtain ⟨u, hu1, hu2⟩ := vals_at r1 h1
      rw [hv] at hu1
      cases hu1
      obtain ⟨as, ha⟩ := Dp.reads I _ _ _ (shaped_dp (Rp.inp h2) hs.2) hu2
      exact ⟨_, as, e1, ha, hs.1, hs.2⟩
    refine call_min_walkH (W _ _ fun s₂ fp St Wk st fpl e2 e3 e4 e5 e6 => ⟨_, fp, _, its.length, _, St, bt .Lt (d :: ds), rfl, Wk, st, fpl, by rw [← len2, ← len1]; exact Nat.succ_pos _, fun h₁ g1 => ?_, fun v h' tk hv hk => ?_⟩)
    · intro i j vi vj s' Q' E' hi hj hk hq
      obtain ⟨x, as, x1, x2, x3, x4⟩ := rd i vi hi
      obtain ⟨y, bs, y1, y2, y3, y4⟩ := rd j vj hj
      have keep : ∀ (b : Addr) (o : Obj), s.heap.get? b = some o → s'.heap.get? b = some o := fun b o e => by
        have lt := Heap.lt_size e
        refine hk b o (fun z => ?_) (fun z => ?_) (g1 b o (e2 b o e))
        · simp only [List.mem_cons, List.not_mem_nil, or_false] at z
          rw [z] at lt
          exact Nat.lt_irrefl _ lt
        · rw [z] at lt
          exact Nat.lt_irrefl _ (Nat.lt_trans lt e3)
      obtain ⟨k, hk2⟩ := like_ord hop d x y x3 y3
      unfold SeqAt.shaped at x4 y4
      simp only [Bool.and_eq_true, decide_eq_true_eq] at x4 y4
      have hord := ord_reads hop x y X.A.in1 s' vi vj as bs k (PyProof.Rows.Reads.keeps keep x2) (PyProof.Rows.Reads.keeps keep y2) x4.1 y4.1 (by rw [in1_units]; omega) hk2
      rw [bt_eq x1 y1, hk2] at hq
      exact hord X.prog X.w E' Q' hq
    · have ea : its.length - 1 = ds.length := by
        rw [← len2, ← len1]
        exact Nat.add_sub_cancel _ _
      rw [ea] at hv
      have ft := foldl_take (op := .Lt) d ds ds.length (Nat.le_refl _)
      rw [List.take_length, ez] at ft
      obtain ⟨w, h1, h2⟩ := rl.get ft
      obtain ⟨u, hu1, hu2⟩ := vals_at r1 h1
      rw [hv] at hu1
      cases hu1
      rw [e4, e5, e6]
      exact ⟨w, H, I.kept (grown rfl e2 hk), hu2, q w h2⟩
def fMin : List D → Option R
  | [.int i, .int j] => some (.va (.int (if j < i then j else i)))
  | [d] => (items d).bind fun ds => (bestD .Lt ds).map R.va
  | _ => none
theorem cr_min' (hc : X.calm = true) (hu : X.A.units + 66 < cLine) : CallR X (.builtin "min") (rDs X.K fMin) := CallR.best fun xs H Q hh => by
  obtain ⟨M, ds, q, m, hu', hf, k⟩ := hh
  unfold fMin at hf
  split at hf
  · cases hf
    obtain ⟨v, w, e, hv, hw⟩ := rpis_two hu'
    have e1 := rpi_int hv
    have e2 := rpi_int hw
    subst e1 e2 e
    exact ⟨_, call_min2 hc, _, _, rfl, k _ H (Ext.refl H) nw_int⟩
  · obtain ⟨v, e, hv⟩ := rpis_one hu'
    subst e
    obtain ⟨ds, hd, hf⟩ := bind_some2 hf
    obtain ⟨z, hz, e⟩ := Option.map_eq_some_iff.mp hf
    subst e
    obtain ⟨a, vs, e1, l1, r1⟩ := rpi_items hv hd
    subst e1
    exact ⟨_, cr_minR hc hu, M, a, vs, ds, z, rfl, l1, r1, hz, fun w hw => k w H (Ext.refl H) hw⟩
  · cases hf

theorem cr_maxR (hc : X.calm = true) (hu : X.A.units + 66 < cLine) : CallR X (.builtin "max") (fun xs H Q => ∃ (M : Addr → Prop) (a : Addr) (vs : List V) (ds : List D) (z : D), xs = [V.ref a] ∧ SqR X.K H a vs ∧ RpL X.K M H ds vs ∧ bestD .Gt ds = some z ∧ ∀ w, Rp X.K M H z w → Q w H) := by
  rintro pins s σ H xs us Q I r ⟨M, a, vs, ds, z, rfl, h, rl, hz, q⟩
  rw [Vals.ref1 r]
  obtain ⟨its, r1, hl, W⟩ := seq_iter (A := X.A.in1) I (by rw [in1_hd]; exact I.ok.hd hc) h
  cases ds with
  | nil => cases hz
  | cons d ds =>
    unfold bestD at hz
    obtain ⟨hall, ez⟩ := ite_some hz
    rw [List.all_eq_true] at hall
    have len1 := rl.length
    have len2 := Vals.length r1
    have hop : CmpOp.Gt = .Lt ∨ CmpOp.Gt = .LtE ∨ CmpOp.Gt = .Gt ∨ CmpOp.Gt = .GtE := by simp
    -- each item is read
    have rd : ∀ (i : Nat) (v : Value), its[i]? = some v → ∃ x as, (d :: ds)[i]? = some x ∧ Reads s.heap v x as ∧ like .Gt d x = true ∧ SeqAt.shaped x = true := fun i v hv => by
      have hi : i < (d :: ds).length := by
        have := (List.getElem?_eq_some_iff.mp hv).1
        omega
      have e1 : (d :: ds)[i]? = some (d :: ds)[i] := List.getElem?_eq_getElem hi
      obtain ⟨w, h1, h2⟩ := rl.get e1
      have hs := hall _ (List.getElem_mem hi)
      simp only [Bool.and_eq_true] at hs
      obtain ⟨u, hu1, hu2⟩ := vals_at r1 h1
      rw [hv] at hu1
      cases hu1
      obtain ⟨as, ha⟩ := Dp.reads I _ _ _ (shaped_dp (Rp.inp h2) hs.2) hu2
      exact ⟨_, as, e1, ha, hs.1, hs.2⟩
    refine call_max_walkH (W _ _ fun s₂ fp St Wk st fpl e2 e3 e4 e5 e6 => ⟨_, fp, _, its.length, _, St, bt .Gt (d :: ds), rfl, Wk, st, fpl, by rw [← len2, ← len1]; exact Nat.succ_pos _, fun h₁ g1 => ?_, fun v h' tk hv hk => ?_⟩)
    · intro i j vi vj s' Q' E' hi hj hk hq
      obtain ⟨x, as, x1, x2, x3, x4⟩ := rd i vi hi
      obtain ⟨y, bs, y1, y2, y3, y4⟩ := rd j vj hj
      have keep : ∀ (b : Addr) (o : Obj), s.heap.get? b = some o → s'.heap.get? b = some o := fun b o e => by
        have lt := Heap.lt_size e
        refine hk b o (fun z => ?_) (fun z => ?_) (g1 b o (e2 b o e))
        · simp only [List.mem_cons, List.not_mem_nil, or_false] at z
          rw [z] at lt
          exact Nat.lt_irrefl _ lt
        · rw [z] at lt
          exact Nat.lt_irrefl _ (Nat.lt_trans lt e3)
      obtain ⟨k, hk2⟩ := like_ord hop d x y x3 y3
      unfold SeqAt.shaped at x4 y4
      simp only [Bool.and_eq_true, decide_eq_true_eq] at x4 y4
      have hord := ord_reads hop x y X.A.in1 s' vi vj as bs k (PyProof.Rows.Reads.keeps keep x2) (PyProof.Rows.Reads.keeps keep y2) x4.1 y4.1 (by rw [in1_units]; omega) hk2
      rw [bt_eq x1 y1, hk2] at hq
      exact hord X.prog X.w E' Q' hq
    · have ea : its.length - 1 = ds.length := by
        rw [← len2, ← len1]
        exact Nat.add_sub_cancel _ _
      rw [ea] at hv
      have ft := foldl_take (op := .Gt) d ds ds.length (Nat.le_refl _)
      rw [List.take_length, ez] at ft
      obtain ⟨w, h1, h2⟩ := rl.get ft
      obtain ⟨u, hu1, hu2⟩ := vals_at r1 h1
      rw [hv] at hu1
      cases hu1
      rw [e4, e5, e6]
      exact ⟨w, H, I.kept (grown rfl e2 hk), hu2, q w h2⟩
def fMax : List D → Option R
  | [.int i, .int j] => some (.va (.int (if j > i then j else i)))
  | [d] => (items d).bind fun ds => (bestD .Gt ds).map R.va
  | _ => none
theorem cr_max' (hc : X.calm = true) (hu : X.A.units + 66 < cLine) : CallR X (.builtin "max") (rDs X.K fMax) := CallR.best fun xs H Q hh => by
  obtain ⟨M, ds, q, m, hu', hf, k⟩ := hh
  unfold fMax at hf
  split at hf
  · cases hf
    obtain ⟨v, w, e, hv, hw⟩ := rpis_two hu'
    have e1 := rpi_int hv
    have e2 := rpi_int hw
    subst e1 e2 e
    exact ⟨_, call_max2 hc, _, _, rfl, k _ H (Ext.refl H) nw_int⟩
  · obtain ⟨v, e, hv⟩ := rpis_one hu'
    subst e
    obtain ⟨ds, hd, hf⟩ := bind_some2 hf
    obtain ⟨z, hz, e⟩ := Option.map_eq_some_iff.mp hf
    subst e
    obtain ⟨a, vs, e1, l1, r1⟩ := rpi_items hv hd
    subst e1
    exact ⟨_, cr_maxR hc hu, M, a, vs, ds, z, rfl, l1, r1, hz, fun w hw => k w H (Ext.refl H) hw⟩
  · cases hf
end
end SE
set_option Elab.async false
set_option linter.all false
set_option maxRecDepth 100000
set_option maxHeartbeats 1000000
namespace SE
open PySem L2
section
variable {X : Cx}
def showOk (d : D) : Bool := d.showable && SeqAt.shaped d && decide (d.shown.length ≤ lim)
def gRepr : D → Option R
  | .list ds => if showOk (.list ds) = true then some (.va (.str (PyData.shown (.list ds)))) else none
  | .tuple ds => if showOk (.tuple ds) = true then some (.va (.str (PyData.shown (.tuple ds)))) else none
  | _ => none
theorem cr_reprR (hg : X.A.guards = some []) (hu : X.A.units + 66 < cLine) : CallR X (.builtin "repr") (fun xs H Q => ∃ a d, xs = [V.ref a] ∧ Dp X.K H (.ref a) d ∧ showOk d = true ∧ Q (.str d.shown) H) := by
  rintro pins s σ H xs us Q I r ⟨a, d, rfl, h, hs, q⟩
  rw [Vals.ref1 r]
  simp only [showOk, Bool.and_eq_true, decide_eq_true_eq] at hs
  obtain ⟨⟨s1, s2⟩, s3⟩ := hs
  unfold SeqAt.shaped at s2
  simp only [Bool.and_eq_true, decide_eq_true_eq] at s2
  obtain ⟨as, ha⟩ := Dp.reads I _ _ (.ref a) h rfl
  refine repr_of_reads' ha s1 (fun z => ?_) hg (by omega) (fun _ _ e => e) (fun h' u tk hk => ?_) (sizeLim s3)
  · rw [noDict_of d s2.1] at z
    cases z
  · exact ⟨.str d.shown, H, I.kept hk, ⟨u, rfl⟩, q⟩
theorem cr_repr' (hg : X.A.guards = some []) (hu : X.A.units + 66 < cLine) : CallR X (.builtin "repr") (rDs X.K (f1 gRepr)) := call1 fun d q hf => by
  unfold gRepr at hf
  split at hf
  · obtain ⟨hl, e⟩ := ite_some hf
    subst e
    refine ⟨_, cr_reprR hg hu, fun M v H Q m hv k => ?_⟩
    have hd : Dp X.K H v _ := shaped_dp hv (by simp only [showOk, Bool.and_eq_true] at hl; exact hl.1.2)
    obtain ⟨a, vs, e1, l1, r1⟩ := hv
    subst e1
    exact ⟨a, _, rfl, hd, hl, k _ H (Ext.refl H) nw_str⟩
  · obtain ⟨hl, e⟩ := ite_some hf
    subst e
    refine ⟨_, cr_reprR hg hu, fun M v H Q m hv k => ?_⟩
    have hd : Dp X.K H v _ := shaped_dp hv (by simp only [showOk, Bool.and_eq_true] at hl; exact hl.1.2)
    obtain ⟨a, vs, e1, l1, r1⟩ := hv
    subst e1
    exact ⟨a, _, rfl, hd, hl, k _ H (Ext.refl H) nw_str⟩
  · cases hf
def insI (i : Int) : List Int → List Int
  | [] => [i]
  | j :: js => if i ≤ j then i :: j :: js else j :: insI i js
def sortI : List Int → List Int
  | [] => []
  | i :: is => insI i (sortI is)
theorem insI_perm (i : Int) : ∀ (l : List Int), (insI i l).Perm (i :: l)
  | [] => .refl _
  | j :: js => by
    unfold insI
    split
    · exact .refl _
    · exact ((insI_perm i js).cons j).trans (.swap i j js)
theorem sortI_perm : ∀ (l : List Int), (sortI l).Perm l
  | [] => .refl _
  | i :: is => (insI_perm i (sortI is)).trans ((sortI_perm is).cons i)
theorem insI_mem {i j : Int} {l : List Int} (h : j ∈ insI i l) : j = i ∨ j ∈ l := by
  have := (insI_perm i l).mem_iff.mp h
  simpa using this
theorem insI_srt (i : Int) : ∀ (l : List Int), l.Pairwise (· ≤ ·) → (insI i l).Pairwise (· ≤ ·)
  | [], _ => by simp [insI]
  | j :: js, h => by
    rw [List.pairwise_cons] at h
    unfold insI
    split
    · rename_i hij
      rw [List.pairwise_cons]
      refine ⟨fun x hx => ?_, List.pairwise_cons.mpr h⟩
      simp only [List.mem_cons] at hx
      rcases hx with rfl | hx
      · exact hij
      · exact Int.le_trans hij (h.1 x hx)
    · rename_i hij
      rw [List.pairwise_cons]
      refine ⟨fun x hx => ?_, insI_srt i js h.2⟩
      rcases insI_mem hx with rfl | hx
      · omega
      · exact h.1 x hx
theorem sortI_srt : ∀ (l : List Int), (sortI l).Pairwise (· ≤ ·)
  | [] => .nil
  | i :: is => insI_srt i _ (sortI_srt is)
theorem srt_unique : ∀ (l m : List Int), l.Perm m → l.Pairwise (· ≤ ·) → m.Pairwise (· ≤ ·) → l = m
  | [], m, p, _, _ => by rw [List.nil_perm.mp p]
  | a :: l, [], p, _, _ => by have := p.length_eq; simp at this
  | a :: l, b :: m, p, h1, h2 => by
    rw [List.pairwise_cons] at h1 h2
    have ea : a = b := by
      have m1 : a ∈ b :: m := p.mem_iff.mp List.mem_cons_self
      have m2 : b ∈ a :: l := p.mem_iff.mpr List.mem_cons_self
      simp only [List.mem_cons] at m1 m2
      rcases m1 with h | h
      · exact h
      · rcases m2 with h' | h'
        · exact h'.symm
        · exact Int.le_antisymm (h1.1 b h') (h2.1 a h)
    subst ea
    rw [srt_unique l m ((List.perm_cons a).mp p) h1.2 h2.2]
theorem cr_sortedIR : CallR X (.builtin "sorted") (fun xs H Q => ∃ (a : Addr) (ns : List Int), xs = [V.ref a] ∧ SqL X.K H a (ns.map V.int) ∧ ∀ p, H p = none → Q (.ref p) (upd H p (.lst ((sortI ns).map V.int)))) := CallR.best fun xs H Q ⟨a, ns, e, l, q⟩ =>
  ⟨_, cr_sortedI, a, ns, e, l, fun ns' p h1 h2 hp => by
    have : ns' = sortI ns := srt_unique _ _ (h1.trans (sortI_perm ns).symm) h2 (sortI_srt ns)
    rw [this]
    exact q p hp⟩
section
open PySem PySem.Calls PyProof.Rows Srt SrtO
variable {prog : Program} {w : World} {A : Around} {E : Value → Shared → Prop} {s : Shared}
theorem collect_tup {l : Addr} {vs : List Value} {Q : List Value → Shared → Prop} (hl : IsTup s.heap l vs.toArray)
    (h : Q vs { s with heap := (s.heap.push (seqObj "list" #[] 0)).update s.heap.objs.size (Obj.mapSeq (· ++ vs.toArray)) }) (hsz : vs.length ≤ sizeLine) :
    wpAny (model prog w) A (collect (.ref l)) Q E s := by
  obtain ⟨o, ho, hc, n, hd⟩ := id hl
  unfold collect
  refine wpAny_bind (wpAny_runValue (codeAny_builtin entry_proto_collect' ?_))
  show wpAny _ _ (do again (.builtin "list.__iadd__" ⟨[← newList [], .ref l], []⟩)) _ _ s
  refine wpAny_bind (wpAny_newList (wpAny_pure ⟨Code.quiet_builtin _ (by decide +kernel), codeAny_builtin entry_list_iadd' ?_⟩))
  show wpAny _ _ (Builtin.List.listExtendWith (.ref s.heap.objs.size) (.ref l) (.ref s.heap.objs.size)) _ _ { s with heap := s.heap.push (seqObj "list" #[] 0) }
  unfold Builtin.List.listExtendWith
  have ho' : (s.heap.push (seqObj "list" #[] 0)).get? l = some o := Heap.get?_push_of_some _ ho
  refine wpAny_bind (wpAny_typeOf (T := "tuple") ⟨o, ho', hc⟩ ?_)
  have ht : (Value.type "tuple" == Value.type "tuple") = true := by rfl
  rw [if_pos (by rw [ht]; simp)]
  refine wpAny_bind (listItems_at ho' hd ?_)
  refine wpAny_bind (listItems_at (xs := #[]) (n := 0) (Heap.get?_push_size _ rfl) rfl ?_)
  rw [if_neg (by simp)]
  refine wpAny_bind (listUpdate_at (xs := #[]) (n := 0) (Heap.get?_push_size _ rfl) rfl ?_ (Nat.zero_le _) (by show (#[] ++ vs.toArray).size ≤ sizeLine + 1; simp only [Array.size_append, List.size_toArray, List.length_nil]; omega))
  refine wpAny_pure ?_
  show wpAny (model prog w) A (do
      let o ← load s.heap.objs.size
      match o.data with
      | .seq xs _ => pure xs.toList
      | _ => unsupported "internal:collect") Q E { s with heap := (s.heap.push (seqObj "list" #[] 0)).update s.heap.objs.size (Obj.mapSeq (· ++ vs.toArray)) }
  refine wpAny_bind (wpAny_load (get?_update_seq (Heap.get?_push_size _ rfl) _) ?_)
  show wpAny _ _ (pure ((#[] : Array Value) ++ vs.toArray).toList) Q E _
  rw [show ((#[] : Array Value) ++ vs.toArray).toList = vs by simp]
  exact wpAny_pure h
theorem sorted_ordT {l : Addr} {vs : List Value} {ltv : Value → Value → Bool} {Q : Value → Shared → Prop} (O : Swo ltv) (hl : IsTup s.heap l vs.toArray) (hz : vs.length ≤ sizeLine)
    (hS : 2 ≤ vs.length → ∀ (h₁ : Heap) (a : Addr), h₁.get? a = some (seqObj "list" vs.toArray 0) → (∀ b o, s.heap.get? b = some o → b ≠ a ∧ h₁.get? b = some o) → SortableO prog w A.in1.in1 { s with heap := h₁ } a vs ltv)
    (h : ∀ out : List Value, Srtd ltv out → Stb ltv out vs → Q (.ref (s.heap.objs.size + 1)) { s with heap := sortedAll s.heap vs out.toArray }) :
    wpAny (model prog w) A (call (.builtin "sorted") [.ref l]) Q E s := by
  refine Calls.call_function_entry kind_sorted plain_sorted entry_sorted (args_sorted1 _) ?_
  unfold Builtin.«sorted»
  refine wpAny_bind (m := checkCount "sorted" 1 1 _) (wpAny_pure ?_)
  refine wpAny_bind (collect_tup hl ?_ hz)
  refine wpAny_bind (wpAny_newList ?_ hz)
  have hsz : ((s.heap.push (seqObj "list" #[] 0)).update s.heap.objs.size (Obj.mapSeq (· ++ vs.toArray))).objs.size = s.heap.objs.size + 1 := by
    rw [Heap.size_update, size_push']
  have hoL : (((s.heap.push (seqObj "list" #[] 0)).update s.heap.objs.size (Obj.mapSeq (· ++ vs.toArray))).push (seqObj "list" vs.toArray 0)).get? (s.heap.objs.size + 1) = some (seqObj "list" vs.toArray 0) := by
    rw [← hsz]; exact Heap.get?_push_size _ rfl
  have keep : ∀ b o, s.heap.get? b = some o → b ≠ s.heap.objs.size + 1 ∧ (((s.heap.push (seqObj "list" #[] 0)).update s.heap.objs.size (Obj.mapSeq (· ++ vs.toArray))).push (seqObj "list" vs.toArray 0)).get? b = some o := fun b o q => by
    have hlt : b < s.heap.objs.size := Heap.lt_size q
    refine ⟨Nat.ne_of_lt (Nat.lt_succ_of_lt hlt), Heap.get?_push_of_some _ ?_⟩
    rw [Heap.get?_update_ne _ _ _ _ (Nat.ne_of_lt hlt)]
    exact Heap.get?_push_of_some _ q
  show wpAny _ _ _ _ _ { s with heap := ((s.heap.push (seqObj "list" #[] 0)).update s.heap.objs.size (Obj.mapSeq (· ++ vs.toArray))).push (seqObj "list" vs.toArray 0) }
  rw [hsz]
  refine wpAny_bind (wpAny_holding (wpAny_call_entry slot_list_sort ⟨_, hoL, rfl⟩ entry_list_sort (list_sort_ord O hoL hz (fun h2 => hS h2 _ _ hoL keep) fun out hs hb => ⟨_, rfl, ?_⟩) (args_list_sort _)))
  exact wpAny_pure ⟨_, rfl, h out hs hb⟩
end
theorem cr_sortedTI : CallR X (.builtin "sorted") (fun vs H Q => ∃ (a : Addr) (ns : List Int), vs = [V.ref a] ∧ SqT X.K H a (ns.map V.int) ∧ ∀ (ns' : List Int) (p : Addr), ns'.Perm ns → ns'.Pairwise (· ≤ ·) → H p = none → Q (.ref p) (upd H p (.lst (ns'.map V.int)))) := by
  intro pins s σ H vs us Q I r h
  obtain ⟨a, ns, rfl, hs, q⟩ := h
  obtain ⟨its, rv, hl, hz⟩ := I.tuple hs
  rw [Vals.ref1 r]
  have hi := rv.ints
  refine sorted_ordT SrtO.swo_int hl (by rw [← rv.length]; exact hz) (fun h2 h₁ a' _ _ => SrtO.ints_sortable hi h2) fun out h1 h2 => ?_
  obtain ⟨k1, k2, k3⟩ := SrtO.ints_out hi h1 h2
  obtain ⟨ep, he'⟩ := PyProof.Rows.sortedAll_at s.heap its out.toArray
  have hlen : ((out.map SrtO.iv).map V.int).length ≤ sizeLine := by
    rw [List.length_map, k2.length_eq]
    rw [List.length_map] at hz
    exact hz
  exact ⟨.ref _, upd H (s.heap.objs.size + 1) (.lst ((out.map SrtO.iv).map V.int)), I.laid (t' := s.toks) (fun _ _ => PyProof.Rows.sortedAll_old) (Nat.le_succ _) ⟨hlen, out, ep, vals_of_ints k1, he'⟩, rfl, q _ _ k2 k3 (I.hok.fresh (Nat.le_succ _))⟩
theorem cr_sortedTR : CallR X (.builtin "sorted") (fun xs H Q => ∃ (a : Addr) (ns : List Int), xs = [V.ref a] ∧ SqT X.K H a (ns.map V.int) ∧ ∀ p, H p = none → Q (.ref p) (upd H p (.lst ((sortI ns).map V.int)))) := CallR.best fun xs H Q ⟨a, ns, e, l, q⟩ =>
  ⟨_, cr_sortedTI, a, ns, e, l, fun ns' p h1 h2 hp => by
    have : ns' = sortI ns := srt_unique _ _ (h1.trans (sortI_perm ns).symm) h2 (sortI_srt ns)
    rw [this]
    exact q p hp⟩
def gSorted : D → Option R
  | .list ds => (asInts ds).map fun ns => .nw (.list ((sortI ns).map .int))
  | .tuple ds => (asInts ds).map fun ns => .nw (.list ((sortI ns).map .int))
  | _ => none
theorem cr_sorted' : CallR X (.builtin "sorted") (rDs X.K (f1 gSorted)) := call1 fun d q hf => by
  unfold gSorted at hf
  split at hf
  · obtain ⟨ns, hn, e⟩ := Option.map_eq_some_iff.mp hf
    subst e
    refine ⟨_, cr_sortedIR, fun M v H Q m hv k => ?_⟩
    obtain ⟨a, vs, e1, l1, r1⟩ := hv
    rw [asInts_eq hn] at r1
    rw [r1.ints] at l1
    exact ⟨a, ns, by rw [e1], l1, fun p hp => k _ _ (Ext.new hp) (nw_list hp RpL.of_ints)⟩
  · obtain ⟨ns, hn, e⟩ := Option.map_eq_some_iff.mp hf
    subst e
    refine ⟨_, cr_sortedTR, fun M v H Q m hv k => ?_⟩
    obtain ⟨a, vs, e1, l1, r1⟩ := hv
    rw [asInts_eq hn] at r1
    rw [r1.ints] at l1
    exact ⟨a, ns, by rw [e1], l1, fun p hp => k _ _ (Ext.new hp) (nw_list hp RpL.of_ints)⟩
  · cases hf
end
end SE
set_option Elab.async false
set_option linter.all false
set_option maxRecDepth 100000
set_option maxHeartbeats 1000000
namespace SE
open PySem L2
section
variable {K : PySem.W.Frag} {T : List (Addr × Str)} {Z : Addr → Prop} {r : Env} {σ : L2.St} {H : Hp}
theorem own_kept {a : Addr} {u : HO} (m : MuZ Z r σ a) : Kept (MuZ Z r σ) (MuZ Z r σ) H (upd H a u) :=
  ⟨fun b o ho _ n => by rw [upd_ne fun z => n (by rw [z]; exact m)]; exact ho, fun b z => .inl z⟩
/-- a slot's own object changes -/
theorem own_upd {i : Nat} {p : Bool} {o o' : D} {a : Addr} {u : HO} (S : SimZ K T Z r σ H) (hi : r[i]? = some (.ow p false o)) (hs : σ[i]? = some (some (.ref a)))
    (hu : RpO K (MuZ Z r σ) (upd H a u) false o' a) : EvE K T Z r σ H (r.set i (.ow p false o')) (upd H a u) := by
  have li : i < r.length := (List.getElem?_eq_some_iff.mp hi).1
  have m0 : Mu r σ a := ⟨i, p, false, o, hi, hs⟩
  have muI : ∀ b, Mu (r.set i (.ow p false o')) σ b ↔ Mu r σ b := fun b => by
    constructor
    · rintro ⟨j, q, l, d, h1, h2⟩
      rcases getSet h1 with ⟨e1, e2, _⟩ | ⟨_, h1⟩
      · cases e2
        subst e1
        exact ⟨i, p, false, o, hi, h2⟩
      · exact ⟨j, q, l, d, h1, h2⟩
    · rintro ⟨j, q, l, d, h1, h2⟩
      by_cases e : i = j
      · subst e
        rw [hi] at h1
        cases h1
        exact ⟨i, p, false, o', List.getElem?_set_self li, h2⟩
      · exact ⟨j, q, l, d, by rw [List.getElem?_set_ne e]; exact h1, h2⟩
  have k0 : Kept (MuZ Z r σ) (MuZ Z (r.set i (.ow p false o')) σ) H (upd H a u) :=
    ⟨fun b v hv _ n => by rw [upd_ne fun z => n (by rw [z]; exact .inl m0)]; exact hv, fun b z => .inl (z.elim (fun z => .inl ((muI b).mp z)) .inr)⟩
  have k1 : Kept (MuZ Z r σ) (MuZ Z (r.set i (.ow p false o')) σ) (upd H a u) (upd H a u) := Kept.less fun b z => z.elim (fun z => .inl ((muI b).mp z)) .inr
  obtain ⟨ob, hob⟩ := S.mem m0
  refine ⟨⟨by rw [List.length_set]; exact S.len, fun j q d h => ?_, fun j q l d h => ?_, fun j j' q q' l l' d d' b h1 h2 h3 h4 => ?_, fun b z m => S.apart b z ((muI b).mp m), fun b z => ?_, fun q hq => ?_⟩,
    fun b v hv _ n => by rw [upd_ne fun z => n (by rw [z]; exact m0)]; exact hv, fun b h => ?_, fun j s h => ?_⟩
  · rcases getSet h with ⟨_, e2, _⟩ | ⟨_, h⟩
    · cases e2
    · obtain ⟨v, a1, a2⟩ := S.va j q d h
      exact ⟨v, a1, Rp.kept k0 d v a2⟩
  · rcases getSet h with ⟨e1, e2, _⟩ | ⟨ne, h⟩
    · cases e2
      subst e1
      exact ⟨a, hs, hu.kept k1 fun _ z => z⟩
    · obtain ⟨b, a1, a2⟩ := S.ow j q l d h
      refine ⟨b, a1, a2.kept k0 fun v hv => ?_⟩
      rw [upd_ne fun z => ne (S.inj i j p q false l o d a hi h hs (by rw [← z]; exact a1))]
      exact hv
  · have back : ∀ (j : Nat) (q m : Bool) (d : D), (r.set i (.ow p false o'))[j]? = some (.ow q m d) → ∃ q m d, r[j]? = some (.ow q m d) := fun j q m d hj => by
      rcases getSet hj with ⟨e1, _, _⟩ | ⟨_, hj⟩
      · subst e1; exact ⟨_, _, _, hi⟩
      · exact ⟨_, _, _, hj⟩
    obtain ⟨_, _, _, b1⟩ := back _ _ _ _ h1
    obtain ⟨_, _, _, b2⟩ := back _ _ _ _ h2
    exact S.inj j j' _ _ _ _ _ _ b b1 b2 h3 h4
  · have ne : b ≠ a := fun e => S.apart b z (by rw [e]; exact m0)
    obtain ⟨z1, z2⟩ := S.zin b z
    exact ⟨by rw [upd_ne ne]; exact z1, z2.eq (upd_ne ne)⟩
  · obtain ⟨ps, e1, e2, e3⟩ := S.tabs q hq
    have nt := S.notbl m0
    refine ⟨ps, ?_, e2, fun pos cv hcv => ?_⟩
    · rw [upd_ne fun z => nt.1 ps (by rw [← z]; exact e1)]
      exact e1
    · obtain ⟨c, f1, f2⟩ := e3 pos cv hcv
      refine ⟨c, f1, ?_⟩
      rw [upd_ne fun z => ?_]
      · exact f2
      · obtain ⟨b, c1, c2⟩ := S.ow i p false o hi
        rw [hs] at c1
        cases c1
        rw [z] at f2
        cases o with
        | list ds => obtain ⟨vs, c3, _⟩ := c2; rw [c3] at f2; cases f2
        | dict kvs => rcases c2 with ⟨ks, c3, _⟩ | ⟨ks, c3, _⟩ <;> (simp only [Bool.false_eq_true, if_false] at c3; rw [c3] at f2; cases f2)
        | tuple ds => exact c2.elim
        | none => exact c2.elim
        | bool _ => exact c2.elim
        | int _ => exact c2.elim
        | str _ => exact c2.elim
  · by_cases e : b = a
    · rw [e, upd_same] at h; cases h
    · rw [upd_ne e] at h; exact h
  · by_cases e : i = j
    · subst e
      rw [hi] at h
      cases h
      exact ⟨_, List.getElem?_set_self li, .inl ⟨o', rfl, fun z => by cases z⟩⟩
    · exact ⟨s, by rw [List.getElem?_set_ne e]; exact h, SlE.refl s⟩
end
/-- x.m(args): the object of the slot i becomes another; what comes back is a value -/
def dMut (i : Nat) (g : D → List D → Option (D × D)) (t : DA) : DE := fun r => match r[i]? with
  | some (.ow _ _ (.list _)) => (t r).bind fun ds r1 => match r1[i]? with
    | some (.ow p false o) => match g o ds with
      | some (o', res) => .ok (.va res) (r1.set i (.ow p false o'))
      | none => .bad
    | _ => .bad
  | _ => .bad
/-- a method's rule, by what it does to the list -/
def MtL (X : Cx) (id : String) (g : D → List D → Option (D × D)) : Prop := ∃ rr, MtR X id rr ∧ ∀ (o : D) (ds : List D) (o' res : D), g o ds = some (o', res) → ∃ os os', o = .list os ∧ o' = .list os' ∧
  ∀ (M : Addr → Prop) (H : Hp) (a : Addr) (vs ws : List V) (Q : VK), M a → H a = some (.lst vs) → RpL X.K M H os vs → RpL X.K M H ds ws →
    (∀ (us : List V) (w : V), RpL X.K M H os' us → Rp X.K M H res w → Q w (upd H a (.lst us))) → rr (.ref a) ws H Q
section
variable {X : Cx} {T : List (Addr × Str)} {W : WX} {Z : Addr → Prop} {e : Expr} {es : List Expr} {dA : DA} {i : Nat} {x name : Str} {p0 ap cp : Pos} {id : String} {g : D → List D → Option (D × D)}
theorem mut_read {rr : V → List V → Hp → VK → Prop} (hm : ∀ (o : D) (ds : List D) (o' res : D), g o ds = some (o', res) → ∃ os os', o = .list os ∧ o' = .list os' ∧
  ∀ (M : Addr → Prop) (H : Hp) (a : Addr) (vs ws : List V) (Q : VK), M a → H a = some (.lst vs) → RpL X.K M H os vs → RpL X.K M H ds ws →
    (∀ (us : List V) (w : V), RpL X.K M H os' us → Rp X.K M H res w → Q w (upd H a (.lst us))) → rr (.ref a) ws H Q) (σ : L2.St) (H : Hp) (Q : VK) (q : tE (gX X T W Z) (dMut i g dA) σ H Q) :
    ∃ a, σ[i]? = some (some (.ref a)) ∧ (tyV X.K "list" (.ref a) H) ∧ tA (gX X T W Z) dA σ H fun ws H2 => rr (.ref a) ws H2 Q := by
  obtain ⟨r, S, q⟩ := q
  unfold dMut at q
  split at q
  · rename_i p0 l0 d0 h0
    obtain ⟨a, a1, vs0, a2, a3⟩ := S.ow i p0 l0 _ h0
    refine ⟨a, a1, .inl ⟨rfl, vs0, .inl (.inl a2)⟩, r, S, aft_mono (aft_bind q) (fun ds r1 q1 ws H1 E1 R1 => ?_) fun _ _ z => z⟩
    split at q1
    · rename_i p o h1
      split at q1
      · rename_i o' res hg
        obtain ⟨b, b1, b2⟩ := E1.sim.ow i p false o h1
        rw [a1] at b1
        cases b1
        obtain ⟨os, os', eo, eo', key⟩ := hm o ds o' res hg
        subst eo eo'
        obtain ⟨vs, c1, c2⟩ := b2
        have m0 : MuZ Z r1 σ a := .inl ⟨i, p, false, _, h1, a1⟩
        refine key (MuZ Z r1 σ) H1 a vs ws Q m0 c1 c2 R1 fun us w u1 u2 => ?_
        have kk := own_kept (H := H1) (u := .lst us) m0
        have E2 := own_upd (o' := .list os') E1.sim h1 a1 ⟨us, upd_same, RpL.kept kk _ _ u1⟩
        exact q1 w _ (E1.trans S E2) (Rp.kept (E2.kept E1.sim) _ _ u2)
      · exact q1.elim
    · exact q1.elim
  · exact q.elim
theorem se_mut (hm : MtL X id g) (h1 : Slot "list" name id) (h2 : typeOf (.builtin id) = pure (.type "method_descriptor")) (hv : PE X (.Name x p0) (tVar i)) (ha : PA X (e :: es) (tA (gX X T W Z) dA))
    (hb : attributeBase (.Name x p0) name X.env (eval (.Name x p0) X.env) = eval (.Name x p0) X.env)
    (hn : ((((backTo cp (starEach (e :: es) X.env)).all fun x => !x.fst) && (backToKw cp (keywordEach [] X.env)).all fun x => x.fst.isSome) && decide (((e :: es).length + ([] : List Keyword).length + if ([] : List Keyword).isEmpty = true then 0 else 1) < 30)) = true)
    (hl : (ap.endLine == cp.line) = true) (hs : ∀ a p, e ≠ .Starred a p) (hpl : ((backTo cp (starEach es X.env)).any fun x => x.fst) = false) :
    PE X (.Call (.Attribute (.Name x p0) name ap) (e :: es) [] cp) (tE (gX X T W Z) (dMut i g dA)) := by
  obtain ⟨rr, r1, r2⟩ := hm
  refine PE.imp (pe_bm PySem.F.plainAttrs_list h1 h2 r1 hv ha hb hn hl (star_cons hs) hpl) fun σ H Q q => ?_
  obtain ⟨a, a1, a2, a3⟩ := mut_read r2 σ H Q q
  exact ⟨_, a1, a2, a3⟩
theorem se_mut0 (hm : MtL X id g) (h1 : Slot "list" name id) (h2 : typeOf (.builtin id) = pure (.type "method_descriptor")) (hv : PE X (.Name x p0) (tVar i))
    (hb : attributeBase (.Name x p0) name X.env (eval (.Name x p0) X.env) = eval (.Name x p0) X.env)
    (hl : (ap.endLine == cp.line) = true) :
    PE X (.Call (.Attribute (.Name x p0) name ap) [] [] cp) (tE (gX X T W Z) (dMut i g aNil)) := by
  obtain ⟨rr, r1, r2⟩ := hm
  refine PE.imp (pe_bm0 PySem.F.plainAttrs_list h1 h2 r1 hv hb hl) fun σ H Q q => ?_
  obtain ⟨a, a1, a2, r, S, q3⟩ := mut_read r2 σ H Q q
  exact ⟨_, a1, a2, q3 [] H (EvE.refl S) RpL.nil⟩
def gAppend : D → List D → Option (D × D)
  | .list os, [d] => if os.length < lim then some (.list (os ++ [d]), .none) else none
  | _, _ => none
theorem ml_append : MtL X "list.append" gAppend := ⟨_, mt_append, fun o ds o' res h => by
  unfold gAppend at h
  split at h
  · obtain ⟨hl, e⟩ := ite_some h
    cases e
    refine ⟨_, _, rfl, rfl, fun M H a vs ws Q ma ha rv rw' k => ?_⟩
    simp only [RpL] at rw'
    obtain ⟨w, ws', ew, w1, w2⟩ := rw'
    subst w2 ew
    refine ⟨a, vs, w, rfl, rfl, ha, by rw [← rv.length, ← lim_eq]; exact hl, k _ _ (rv.append (RpL.cons w1 RpL.nil)) (by simp only [Rp])⟩
  · cases h⟩
def gExtend : D → List D → Option (D × D)
  | .list os, [.list ds] => if os.length + ds.length ≤ lim then some (.list (os ++ ds), .none) else none
  | _, _ => none
def gInsert : D → List D → Option (D × D)
  | .list os, [.int i, d] => if os.length < lim ∧ 0 ≤ i ∧ i < 9223372036854775808 then some (.list (os.take i.toNat ++ [d] ++ os.drop i.toNat), .none) else none
  | _, _ => none
theorem ml_insert : MtL X "list.insert" gInsert := ⟨_, mt_insert, fun o ds o' res h => by
  unfold gInsert at h
  split at h
  · obtain ⟨hl, e⟩ := ite_some h
    cases e
    refine ⟨_, _, rfl, rfl, fun M H a vs ws Q ma ha rv rw' k => ?_⟩
    simp only [RpL] at rw'
    obtain ⟨w, ws', ew, w1, w2, ws2, ew2, w3, w4⟩ := rw'
    subst w4 ew2 ew
    simp only [Rp] at w1
    subst w1
    refine ⟨a, vs, _, w2, rfl, rfl, ha, by rw [← rv.length, ← lim_eq]; exact hl.1, hl.2.1, by omega, k _ _ (((rv.take _).append (RpL.cons w3 RpL.nil)).append (rv.drop _)) (by simp only [Rp])⟩
  · cases h⟩
def gPop : D → List D → Option (D × D)
  | .list os, [] => (os[os.length - 1]?).map fun d => (.list os.dropLast, d)
  | _, _ => none
theorem RpL.dropLast {K : PySem.W.Frag} {M : Addr → Prop} {H : Hp} {ds : List D} {vs : List V} (h : RpL K M H ds vs) : RpL K M H ds.dropLast vs.dropLast := by
  rw [List.dropLast_eq_take, List.dropLast_eq_take, h.length]
  exact h.take _
theorem ml_pop : MtL X "list.pop" gPop := ⟨_, mt_pop, fun o ds o' res h => by
  unfold gPop at h
  split at h
  · obtain ⟨d, hd, e⟩ := Option.map_eq_some_iff.mp h
    cases e
    refine ⟨_, _, rfl, rfl, fun M H a vs ws Q ma ha rv rw' k => ?_⟩
    simp only [RpL] at rw'
    subst rw'
    obtain ⟨w, h1, h2⟩ := rv.get hd
    rw [rv.length] at h1
    exact ⟨a, vs, w, rfl, rfl, ha, h1, k _ _ rv.dropLast h2⟩
  · cases h⟩
theorem RpL.eraseIdx {K : PySem.W.Frag} {M : Addr → Prop} {H : Hp} : ∀ {ds : List D} {vs : List V} (k : Nat), RpL K M H ds vs → RpL K M H (ds.eraseIdx k) (vs.eraseIdx k)
  | [], vs, k, h => by simp only [RpL] at h; subst h; exact RpL.nil
  | d :: ds, vs, 0, h => by
    simp only [RpL] at h
    obtain ⟨w, ws, e, h1, h2⟩ := h
    subst e
    exact h2
  | d :: ds, vs, k + 1, h => by
    simp only [RpL] at h
    obtain ⟨w, ws, e, h1, h2⟩ := h
    subst e
    exact RpL.cons h1 (RpL.eraseIdx k h2)
def gPopAt : D → List D → Option (D × D)
  | .list os, [.int i] => if -9223372036854775808 ≤ i ∧ i < 9223372036854775808 then (seqIndex? i os.length).bind fun k => (os[k]?).map fun d => (.list (os.eraseIdx k), d) else none
  | _, _ => none
theorem ml_popAt : MtL X "list.pop" gPopAt := ⟨_, mt_popAt, fun o ds o' res h => by
  unfold gPopAt at h
  split at h
  · split at h
    · rename_i hl
      obtain ⟨k, hk, h⟩ := bind_some2 h
      obtain ⟨d, hd, e⟩ := Option.map_eq_some_iff.mp h
      cases e
      refine ⟨_, _, rfl, rfl, fun M H a vs ws Q ma ha rv rw' k' => ?_⟩
      simp only [RpL] at rw'
      obtain ⟨w, ws', ew, w1, w2⟩ := rw'
      subst w2 ew
      simp only [Rp] at w1
      subst w1
      obtain ⟨w, h1, h2⟩ := rv.get hd
      rw [rv.length] at hk
      exact ⟨a, vs, _, k, w, rfl, rfl, ha, by omega, by omega, hk, h1, k' _ _ (rv.eraseIdx _) h2⟩
    · cases h
  · cases h⟩
def gReverse : D → List D → Option (D × D)
  | .list os, [] => some (.list os.reverse, .none)
  | _, _ => none
end
end SE
set_option Elab.async false
set_option linter.all false
set_option maxRecDepth 100000
set_option maxHeartbeats 1000000
namespace SE
open PySem L2
/-- x.extend(e), e a new list -/
def dExt (i : Nat) (e : DE) : DE := fun r => match r[i]? with
  | some (.ow _ _ (.list _)) => (e r).bind fun x r1 => match x, r1[i]? with
    | .nw (.list ds), some (.ow p false (.list os)) => if os.length + ds.length ≤ lim then .ok (.va .none) (r1.set i (.ow p false (.list (os ++ ds)))) else .bad
    | _, _ => .bad
  | _ => .bad
/-- x[k] = e: e is given away first, then x and k are read -/
def sSub (i : Nat) (f : D → D → D → Option D) (k e : DE) : DS := fun r => (e r).st fun x r1 => match esc r1 x with
  | some (d, r2) => match r2[i]? with
    | some (.ow _ _ _) => (k r2).st fun y r3 => nxt ((der r3 y).bind fun kd => chg i (fun o => f o kd d) r3)
    | _ => .bad
  | none => .bad
def fSetL : D → D → D → Option D
  | .list os, .int k, d => (ixN os.length k).map fun j => .list (os.set j d)
  | _, _, _ => none
theorem EvE.back {K : PySem.W.Frag} {T : List (Addr × Str)} {Z : Addr → Prop} {r r1 : Env} {σ : L2.St} {H H1 : Hp} (E : EvE K T Z r σ H r1 H1) (S : SimZ K T Z r σ H) {i : Nat} {p l : Bool} {d : D} (h : r1[i]? = some (.ow p l d)) : ∃ d0, r[i]? = some (.ow p l d0) := by
  have hi : i < r.length := by rw [← E.len S]; exact (List.getElem?_eq_some_iff.mp h).1
  obtain ⟨s', e1, e2⟩ := E.slot i r[i] (List.getElem?_eq_getElem hi)
  rw [h] at e1
  cases e1
  cases hq : r[i] with
  | un => rw [hq] at e2; cases e2
  | va q e => rw [hq] at e2; cases e2
  | ow q m e =>
    rw [hq] at e2
    rcases e2 with ⟨d', e3, _⟩ | ⟨_, d', e3⟩
    · cases e3
      exact ⟨e, by rw [List.getElem?_eq_getElem hi, hq]⟩
    · cases e3
section
variable {X : Cx} {T : List (Addr × Str)} {W : WX} {Z : Addr → Prop} {e k tg : Expr} {de dk : DE} {i : Nat} {x name : Str} {p0 p1 ap cp pos : Pos}
theorem se_extend (h1 : Slot "list" name "list.extend") (h2 : typeOf (.builtin "list.extend") = pure (.type "method_descriptor")) (hv : PE X (.Name x p0) (tVar i)) (he : PE X e (tE (gX X T W Z) de))
    (hb : attributeBase (.Name x p0) name X.env (eval (.Name x p0) X.env) = eval (.Name x p0) X.env)
    (hn : ((((backTo cp (starEach [e] X.env)).all fun x => !x.fst) && (backToKw cp (keywordEach [] X.env)).all fun x => x.fst.isSome) && decide (([e].length + ([] : List Keyword).length + if ([] : List Keyword).isEmpty = true then 0 else 1) < 30)) = true)
    (hl : (ap.endLine == cp.line) = true) (hs : ∀ a p, e ≠ .Starred a p) (hpl : ((backTo cp (starEach [] X.env)).any fun x => x.fst) = false) :
    PE X (.Call (.Attribute (.Name x p0) name ap) [e] [] cp) (tE (gX X T W Z) (dExt i de)) := by
  refine PE.imp (pe_bm PySem.F.plainAttrs_list h1 h2 mt_extend hv (sr_cons hs he sr_nil) hb hn hl (star_cons hs) hpl) fun σ H Q q => ?_
  obtain ⟨r, S, q⟩ := q
  unfold dExt at q
  split at q
  · rename_i p0 l0 d0 h0
    obtain ⟨a, a1, vs0, a2, a3⟩ := S.ow i p0 l0 _ h0
    refine ⟨_, a1, .inl ⟨rfl, vs0, .inl (.inl a2)⟩, r, S, ?_⟩
    unfold rCons rNil
    cases hx : de r with
    | bad => rw [hx] at q; exact q.elim
    | ex ee r1 => rw [hx] at q; exact q
    | ok x r1 =>
      rw [hx] at q
      intro ws H1 E1 R1
      have q : (match x, r1[i]? with
        | R.nw (.list ds), some (.ow p false (.list os)) => if os.length + ds.length ≤ lim then Out.ok (R.va .none) (r1.set i (.ow p false (.list (os ++ ds)))) else .bad
        | _, _ => .bad).aft _ _ := q
      split at q
      · rename_i ds p os h1 qq
        by_cases hl : os.length + ds.length ≤ lim
        · rw [if_pos hl] at q
          obtain ⟨w, ws', ew, hw, hw'⟩ := R1
          cases (show ws' = [] from hw')
          obtain ⟨b, eb, nb, vb, b1, b2⟩ := hw
          obtain ⟨c, c1, vs, c2, c3⟩ := E1.sim.ow i p false _ h1
          rw [a1] at c1
          cases c1
          subst eb
          have m0 : MuZ Z r1 σ a := .inl ⟨i, p, false, _, h1, a1⟩
          have kk := own_kept (H := H1) (u := .lst (vs ++ vb)) m0
          refine ⟨a, b, vs, vb, rfl, ew, c2, b1, by rw [← c3.length, ← b2.length, ← lim_eq]; exact hl, ?_⟩
          exact q _ _ (E1.trans S (own_upd (o' := .list (os ++ ds)) E1.sim h1 a1 ⟨_, upd_same, RpL.kept kk _ _ (c3.append b2)⟩)) (by simp only [ResR, Rp])
        · rw [if_neg hl] at q; exact q.elim
      · exact q.elim
  · exact q.elim
/-- x[k] = e -/
theorem ss_setL (h : ∀ te g, PE X e te → PG X (.Subscript (.Name x p0) k p1) g → PS X (.Assign [.Subscript (.Name x p0) k p1] e pos) (tAsg te g))
    (hg : ∀ to ti t, PE X (.Name x p0) to → PE X k ti → PSet X t → PG X (.Subscript (.Name x p0) k p1) (gSub to ti t))
    (hv : PE X (.Name x p0) (tVar i)) (hk : PE X k (tE (gX X T W Z) dk)) (he : PE X e (tE (gX X T W Z) de)) : PS X (.Assign [.Subscript (.Name x p0) k p1] e pos) (tS (gX X T W Z) (sSub i fSetL dk de)) := by
  refine PS.imp (h _ _ he (hg _ _ _ hv hk set_list)) fun D σ H q => ?_
  obtain ⟨r, S, q⟩ := q
  unfold sSub at q
  refine ⟨r, S, aft_mono (sAft_st S q) (fun x r1 q1 v H1 E1 R1 => ?_) fun _ _ z => z⟩
  cases h1 : esc r1 x with
  | none => rw [h1] at q1; exact q1.elim
  | some dr =>
    obtain ⟨d, r2⟩ := dr
    rw [h1] at q1
    dsimp only at q1
    obtain ⟨E2, rp⟩ := esc_ok E1.sim (R1.holds S E1) h1
    have E12 := E1.trans S E2
    split at q1
    · rename_i p2 l2 d2 h2
      obtain ⟨a, a1, _⟩ := E2.sim.ow i p2 l2 d2 h2
      refine ⟨_, a1, r2, E2.sim, aft_mono (sAft_st E2.sim (sAft.then (E12.s S) q1)) (fun y r3 q3 w H3 E3 R3 => ?_) fun _ _ z => z⟩
      have E123 := E12.trans S E3
      cases hd : der r3 y with
      | none => rw [hd] at q3; exact q3.elim
      | some kd =>
        rw [hd, Option.bind_some] at q3
        unfold chg at q3
        split at q3
        · rename_i p o h3
          dsimp only at q3
          cases ho : fSetL o kd d with
          | none => rw [ho] at q3; exact q3.elim
          | some o' =>
            rw [ho] at q3
            have hkv := (R3.holds E2.sim E3).der E3.sim hd
            unfold fSetL at ho
            split at ho
            · obtain ⟨j, hj, eo⟩ := Option.map_eq_some_iff.mp ho
              subst eo
              obtain ⟨b, b1, vs, b2, b3⟩ := E3.sim.ow i p false _ h3
              rw [a1] at b1
              cases b1
              have hw := rpi_int hkv
              subst hw
              have m0 : MuZ Z r3 σ a := .inl ⟨i, p, false, _, h3, a1⟩
              have kk := own_kept (H := H3) (u := .lst (vs.set j v)) m0
              have rp3 := Rp.kept (E3.kept E2.sim) _ _ rp
              refine ⟨a, vs, _, j, rfl, rfl, b2, by rw [← b3.length]; exact hj, ?_⟩
              exact q3 σ _ ((E3.trans E2.sim (own_upd (o' := .list (_)) E3.sim h3 a1 ⟨_, upd_same, RpL.kept kk _ _ (RpL.set rp3 j b3)⟩)).s E2.sim)
            · cases ho
        · exact q3.elim
    · exact q1.elim
variable {iter elt : Expr} {ifs : List Expr} {scope : Scope} {own : List (Str × Nat)} {it : DI} {p : Pat} {t : DT} {d : DE} {y : Str} {py spos : Pos} {m : Bool}
theorem le_len {N : List Str} {own : List (Str × Nat)} (h : ∀ (p : Str × Nat), p ∈ own → N[p.2]? = some p.1) : ∀ j ∈ own.map (·.2), j < N.length := fun j hj => by
  obtain ⟨q, hq, e⟩ := List.mem_map.mp hj
  have := h q hq
  rw [← e]
  exact (List.getElem?_eq_some_iff.mp this).1
theorem PE.len {X : Cx} {e : Expr} {t t' : TE} (h : PE X e t) (k : ∀ σ H Q, σ.length = X.N.length → t' σ H Q → t σ H Q) : PE X e t' := ⟨fun p s σ H Q I q => h.run p s σ H Q I (k σ H Q I.len q)⟩
theorem PS.len {X : Cx} {e : Stmt} {t t' : TS} (h : PS X e t) (k : ∀ D σ H, σ.length = X.N.length → t' D σ H → t D σ H) : PS X e t' := ⟨fun p s σ H D I q => h.run p s σ H D I (k D σ H I.len q)⟩
theorem se_lc (hc : X.calm = true) (hN : X.N.Nodup) (hi : PI X tg iter (tI (gX X T W Z) it)) (ok : BlkOk X.N X.env.scope scope own) (hp : ∀ j ∈ pslots p, j ∈ own.map (·.2))
    (hg : ∀ (s : Shared) (H : Hp) (C : Addr) (cl : List (Str × Addr)) (fp : List Addr) (Z' : Addr → Prop), PG (X.blk s H scope (compEnvC scope cl C X.env) fp) tg (tG (gB X T Z') p))
    (ht : ∀ (s : Shared) (H : Hp) (C : Addr) (cl : List (Str × Addr)) (fp : List Addr) (Z' : Addr → Prop), PTs (X.blk s H scope (compEnvC scope cl C X.env) fp) ifs (tT (gB X T Z') t))
    (he : ∀ (s : Shared) (H : Hp) (C : Addr) (cl : List (Str × Addr)) (fp : List Addr) (Z' : Addr → Prop), PE (X.blk s H scope (compEnvC scope cl C X.env) fp) elt (tE (gB X T Z') d))
    (hf : ∀ x, foldedSetIterable iter X.env x = pure x) :
    PE X (.ListComp elt [{ target := tg, iter := iter, ifs := ifs, is_async := 0 }] scope pos) (tE (gX X T W Z) (dLc (own.map (·.2)) it p t d)) :=
  PE.len (pe_lc hc hN hi ok (fun s H C cl fp => PG.ex (hg s H C cl fp)) (fun s H C cl fp => PTs.ex (ht s H C cl fp)) (fun s H C cl fp => PE.ex (he s H C cl fp)) hf) fun σ H Q l q =>
    lc_read σ H Q _ hp (fun j hj => by rw [l]; exact le_len ok.ix j hj) q
theorem asg_read {i : Nat} {te : TE} (h : ∀ σ H Q, σ.length = X.N.length → tE (gX X T W Z) de σ H Q → te σ H Q) : ∀ D σ H, σ.length = X.N.length → tS (gX X T W Z) (sAsg m i de) D σ H → tAsg te (gName i) D σ H := fun D σ H l q => by
  obtain ⟨r, S, q⟩ := q
  refine h σ H _ l ⟨r, S, aft_mono (sAft_st S q) (fun x r1 q1 v H1 E1 R1 => ?_) fun _ _ z => z⟩
  have val : sAft (gX X T W Z) D r σ H (nxt ((esc r1 x).bind fun (d, r2) => store i (.va false d) r2)) → D.nx (σ.set i (some v)) H1 := fun q => by
    cases h1 : esc r1 x with
    | none => rw [h1] at q; exact q.elim
    | some dr =>
      obtain ⟨d, r2⟩ := dr
      rw [h1] at q
      obtain ⟨E2, rp⟩ := esc_ok E1.sim (R1.holds S E1) h1
      dsimp only [Option.bind_some] at q
      cases h2 : store i (.va false d) r2 with
      | none => rw [h2] at q; exact q.elim
      | some r3 =>
        rw [h2] at q
        exact q _ H1 (((E1.trans S E2).s S).trans (store_va E2.sim rp h2))
  cases x with
  | va d => exact val (by cases m <;> exact q1)
  | sl j => exact val (by cases m <;> exact q1)
  | nw d =>
    cases m with
    | false => exact val q1
    | true =>
      obtain ⟨a, ev, na, Sz, o⟩ := R1
      subst ev
      dsimp only at q1
      cases h2 : store i (.ow false false d) r1 with
      | none => rw [h2] at q1; exact q1.elim
      | some r3 =>
        rw [h2] at q1
        have nz : ¬ Z a := fun z => (S.zin a z).1 na
        obtain ⟨b1, b2, b3⟩ := store_ow (H0 := H) Sz o nz na h2
        have F := E1.s S
        refine q1 _ H1 ⟨b1, F.ob, F.dom, fun p b m => ?_, fun j t hj => ?_⟩
        · rcases b2 p b m with m | m
          · exact F.mu p b m
          · exact .inr m
        · obtain ⟨s1, c1, c2, c3⟩ := F.slot j t hj
          obtain ⟨s2, c4, c5, c6⟩ := b3 j s1 c1
          exact ⟨s2, c4, c2.trans c5, fun z => (c6 (c2.stays z)).trans (c3 z)⟩
theorem ss_asgLc (hc : X.calm = true) (hN : X.N.Nodup) (hy : X.N[i]? = some y) (hyl : List.lookup y X.env.scope.names = some .local)
    (hsw : swapsWith (.ListComp elt [{ target := tg, iter := iter, ifs := ifs, is_async := 0 }] scope pos) (some (.Name y py)) spos.line X.env = pure true)
    (hi : PI X tg iter (tI (gX X T W Z) it)) (ok : BlkOk X.N X.env.scope scope own) (hp : ∀ j ∈ pslots p, j ∈ own.map (·.2))
    (hg : ∀ (s : Shared) (H : Hp) (C : Addr) (cl : List (Str × Addr)) (fp : List Addr) (Z' : Addr → Prop), PG (X.blk s H scope (compEnvC scope cl C X.env) fp) tg (tG (gB X T Z') p))
    (ht : ∀ (s : Shared) (H : Hp) (C : Addr) (cl : List (Str × Addr)) (fp : List Addr) (Z' : Addr → Prop), PTs (X.blk s H scope (compEnvC scope cl C X.env) fp) ifs (tT (gB X T Z') t))
    (he : ∀ (s : Shared) (H : Hp) (C : Addr) (cl : List (Str × Addr)) (fp : List Addr) (Z' : Addr → Prop), PE (X.blk s H scope (compEnvC scope cl C X.env) fp) elt (tE (gB X T Z') d))
    (hf : ∀ x, foldedSetIterable iter X.env x = pure x) :
    PS X (.Assign [.Name y py] (.ListComp elt [{ target := tg, iter := iter, ifs := ifs, is_async := 0 }] scope pos) spos) (tS (gX X T W Z) (sAsg m i (dLc (own.map (·.2)) it p t d))) :=
  PS.len (ps_setLc hc hN hy hyl hsw hi ok (fun s H C cl fp => PG.ex (hg s H C cl fp)) (fun s H C cl fp => PTs.ex (ht s H C cl fp)) (fun s H C cl fp => PE.ex (he s H C cl fp)) hf)
    (asg_read fun σ H Q l q => lc_read σ H Q _ hp (fun j hj => by rw [l]; exact le_len ok.ix j hj) q)
end
end SE
set_option Elab.async false
set_option linter.all false
set_option maxRecDepth 100000
set_option maxHeartbeats 1000000
namespace SE
open PySem L2
section
variable {K : PySem.W.Frag} {T : List (Addr × Str)} {Z : Addr → Prop} {as : List Sl} {vs : List V} {H H' : Hp} {k : Nat}
abbrev r0 (as : List Sl) (k : Nat) : Env := as.map inn ++ List.replicate k .un
abbrev s0 (vs : List V) (k : Nat) : L2.St := vs.map some ++ List.replicate k none
theorem r0_at {j : Nat} {s : Sl} (h : (r0 as k)[j]? = some s) : (∃ a, as[j]? = some a ∧ s = inn a) ∨ (as.length ≤ j ∧ s = .un) := by
  rw [List.getElem?_append] at h
  rw [List.length_map] at h
  by_cases hj : j < as.length
  · rw [if_pos hj, List.getElem?_map, List.getElem?_eq_getElem hj] at h
    exact .inl ⟨as[j], List.getElem?_eq_getElem hj, (Option.some.inj h).symm⟩
  · rw [if_neg hj, List.getElem?_replicate] at h
    split at h
    · exact .inr ⟨by omega, (Option.some.inj h).symm⟩
    · cases h
theorem r0_of {j : Nat} {a : Sl} (h : as[j]? = some a) : (r0 as k)[j]? = some (inn a) := by
  have hj : j < as.length := (List.getElem?_eq_some_iff.mp h).1
  rw [List.getElem?_append, List.length_map, if_pos hj, List.getElem?_map, h]
  rfl
theorem s0_of {j : Nat} (h : j < vs.length) : (s0 vs k)[j]? = (vs.map some)[j]? := by
  rw [List.getElem?_append, List.length_map, if_pos h]
theorem mu0 (hl : as.length = vs.length) (b : Addr) : Mu (r0 as k) (s0 vs k) b ↔ Mu as (vs.map some) b := by
  constructor
  · rintro ⟨j, p, l, d, h1, h2⟩
    rcases r0_at h1 with ⟨a, ha, e⟩ | ⟨_, e⟩
    · have hj : j < as.length := (List.getElem?_eq_some_iff.mp ha).1
      rw [s0_of (by rw [← hl]; exact hj)] at h2
      cases a with
      | un => cases e
      | va _ _ => cases e
      | ow q m e' => cases e; exact ⟨j, q, _, _, ha, h2⟩
    · cases e
  · rintro ⟨j, p, l, d, h1, h2⟩
    have hj : j < as.length := (List.getElem?_eq_some_iff.mp h1).1
    exact ⟨j, true, l, d, r0_of h1, by rw [s0_of (by rw [← hl]; exact hj)]; exact h2⟩
theorem enter_sim (S : SimZ K T Z as (vs.map some) H) : SimZ K T Z (r0 as k) (s0 vs k) H := by
  have hl : as.length = vs.length := by have := S.len; rwa [List.length_map] at this
  have kk : Kept (MuZ Z as (vs.map some)) (MuZ Z (r0 as k) (s0 vs k)) H H := Kept.less fun b z => z.elim (fun z => .inl ((mu0 hl b).mp z)) .inr
  refine ⟨by simp [hl], fun j p d h => ?_, fun j p l d h => ?_, fun j j' p q l m d d' a h1 h2 h3 h4 => ?_, fun b z m => S.apart b z ((mu0 hl b).mp m), S.zin, S.tabs⟩
  · rcases r0_at h with ⟨a, ha, e⟩ | ⟨_, e⟩
    · have hj : j < as.length := (List.getElem?_eq_some_iff.mp ha).1
      cases a with
      | un => cases e
      | va q d' =>
        cases e
        obtain ⟨v, a1, a2⟩ := S.va j _ _ ha
        exact ⟨v, by rw [s0_of (by rw [← hl]; exact hj)]; exact a1, Rp.kept kk _ _ a2⟩
      | ow _ _ _ => cases e
    · cases e
  · rcases r0_at h with ⟨a, ha, e⟩ | ⟨_, e⟩
    · have hj : j < as.length := (List.getElem?_eq_some_iff.mp ha).1
      cases a with
      | un => cases e
      | va q d' => cases e
      | ow q m d' =>
        cases e
        obtain ⟨v, a1, a2⟩ := S.ow j _ _ _ ha
        exact ⟨v, by rw [s0_of (by rw [← hl]; exact hj)]; exact a1, a2.kept kk fun _ z => z⟩
    · cases e
  · have back : ∀ (j : Nat) (p l : Bool) (d : D), (r0 as k)[j]? = some (.ow p l d) → ∃ q, as[j]? = some (.ow q l d) ∧ j < vs.length := fun j p l d h => by
      rcases r0_at h with ⟨a, ha, e⟩ | ⟨_, e⟩
      · have hj : j < as.length := (List.getElem?_eq_some_iff.mp ha).1
        cases a with
        | un => cases e
        | va q d' => cases e
        | ow q m d' => cases e; exact ⟨q, ha, by rw [← hl]; exact hj⟩
      · cases e
    obtain ⟨q1, b1, n1⟩ := back _ _ _ _ h1
    obtain ⟨q2, b2, n2⟩ := back _ _ _ _ h2
    rw [s0_of n1] at h3
    rw [s0_of n2] at h4
    exact S.inj j j' _ _ _ _ _ _ a b1 b2 h3 h4
theorem outs_get : ∀ {as : List Sl} {r : Env} {j : Nat} {a s : Sl}, as[j]? = some a → r[j]? = some s → (outs as r)[j]? = some (outs1 a s)
  | [], _, _, _, _, h, _ => by simp at h
  | a :: as, [], _, _, _, _, h => by simp at h
  | a :: as, s :: r, 0, _, _, h1, h2 => by
    simp at h1 h2
    subst h1 h2
    rfl
  | a :: as, s :: r, j + 1, _, _, h1, h2 => by
    simp only [List.getElem?_cons_succ] at h1 h2
    have := outs_get h1 h2
    simpa [outs] using this
theorem outs_len : ∀ {as : List Sl} {r : Env}, (outs as r).length = as.length
  | [], _ => rfl
  | a :: as, [] => by simp [outs, outs_len (as := as) (r := [])]
  | a :: as, s :: r => by simp [outs, outs_len (as := as) (r := r)]
variable {r : Env} {σ : L2.St}
/-- what the arguments are behind the def: a slot by slot view -/
theorem outs_view (hl : as.length = vs.length) (E : EvS K T Z (r0 as k) (s0 vs k) H r σ H') {j : Nat} {a : Sl} (h : as[j]? = some a) :
    ∃ s, r[j]? = some s ∧ (outs as r)[j]? = some (outs1 a s) ∧ SlE a (outs1 a s) ∧ (∀ p l d, a = .ow p l d → σ[j]? = (vs.map some)[j]? ∧ ((∃ d', s = .ow true l d' ∧ outs1 a s = .ow p l d') ∨ ∃ d', s = .va true d' ∧ outs1 a s = .va p d')) := by
  obtain ⟨s, e1, e2, e3⟩ := E.slot j _ (r0_of (k := k) h)
  have hj : j < vs.length := by rw [← hl]; exact (List.getElem?_eq_some_iff.mp h).1
  refine ⟨s, e1, outs_get h e1, ?_, ?_⟩
  · cases a with
    | un => exact rfl
    | va p d => exact rfl
    | ow p l d =>
      rcases e2 with ⟨d', q, f⟩ | ⟨q, d', q2⟩
      · subst q
        exact .inl ⟨d', rfl, f⟩
      · subst q2
        exact .inr ⟨q, d', rfl⟩
  · intro p l d ea
    subst ea
    refine ⟨by rw [e3 rfl, s0_of hj], ?_⟩
    rcases e2 with ⟨d', q, f⟩ | ⟨q, d', q2⟩
    · subst q
      exact .inl ⟨d', rfl, rfl⟩
    · subst q2
      exact .inr ⟨d', rfl, rfl⟩
theorem outs_own (hl : as.length = vs.length) (E : EvS K T Z (r0 as k) (s0 vs k) H r σ H') {j : Nat} {p l : Bool} {d : D} (h : (outs as r)[j]? = some (.ow p l d)) : ∃ d0, as[j]? = some (.ow p l d0) ∧ r[j]? = some (.ow true l d) ∧ σ[j]? = (vs.map some)[j]? := by
  have hj : j < as.length := by rw [← outs_len (as := as) (r := r)]; exact (List.getElem?_eq_some_iff.mp h).1
  obtain ⟨s, h1, h2, h3, h4⟩ := outs_view hl E (List.getElem?_eq_getElem hj)
  rw [h] at h2
  cases ha : as[j] with
  | un => rw [ha] at h2; cases h2
  | va _ _ => rw [ha] at h2; cases h2
  | ow q m d0 =>
    obtain ⟨g1, g2⟩ := h4 _ _ _ ha
    rw [ha] at h2
    rcases g2 with ⟨d', e1, e2⟩ | ⟨d', e1, e2⟩
    · rw [ha] at e2
      rw [e2] at h2
      cases h2
      exact ⟨d0, by rw [List.getElem?_eq_getElem hj, ha], by rw [h1, e1], g1⟩
    · rw [ha] at e2
      rw [e2] at h2
      cases h2
theorem outs_mu (hl : as.length = vs.length) (E : EvS K T Z (r0 as k) (s0 vs k) H r σ H') (b : Addr) (m : Mu (outs as r) (vs.map some) b) : Mu r σ b ∧ Mu as (vs.map some) b := by
  obtain ⟨j, p, l, d, h1, h2⟩ := m
  obtain ⟨d0, g1, g2, g3⟩ := outs_own hl E h1
  exact ⟨⟨j, true, l, d, g2, by rw [g3]; exact h2⟩, ⟨j, p, l, d0, g1, h2⟩⟩
/-- the arguments' frame behind the def -/
theorem leave_sim {Z' : Addr → Prop} (S : SimZ K T Z as (vs.map some) H) (E : EvS K T Z (r0 as k) (s0 vs k) H r σ H') (S' : SimZ K T Z' r σ H') (hz : ∀ b, Z' b → Z b ∨ H b = none) : SimZ K T Z' (outs as r) (vs.map some) H' := by
  have hl : as.length = vs.length := by have := S.len; rwa [List.length_map] at this
  have k1 : Kept (MuZ Z' r σ) (MuZ Z' (outs as r) (vs.map some)) H' H' := Kept.less fun b z => z.elim (fun z => .inl (outs_mu hl E b z).1) .inr
  have k2 : Kept (MuZ Z as (vs.map some)) (MuZ Z' (outs as r) (vs.map some)) H H' :=
    ⟨fun b o ho t n => E.ob b o ho t fun z => n (.inl ((mu0 hl b).mp z)), fun b z => by
      rcases z with z | z
      · exact .inl (.inl (outs_mu hl E b z).2)
      · exact (hz b z).elim (fun z => .inl (.inr z)) .inr⟩
  refine ⟨by rw [outs_len, List.length_map, hl], fun j p d h => ?_, fun j p l d h => ?_, fun j j' p q l m d d' a h1 h2 h3 h4 => ?_, fun b z m => S'.apart b z (outs_mu hl E b m).1, S'.zin, S'.tabs⟩
  · have hj : j < as.length := by rw [← outs_len (as := as) (r := r)]; exact (List.getElem?_eq_some_iff.mp h).1
    obtain ⟨s, h1, h2, h3, h4⟩ := outs_view hl E (List.getElem?_eq_getElem hj)
    rw [h] at h2
    cases ha : as[j] with
    | un => rw [ha] at h2; cases h2
    | va q d0 =>
      rw [ha] at h2
      cases h2
      obtain ⟨v, a1, a2⟩ := S.va j _ _ (by rw [List.getElem?_eq_getElem hj, ha])
      exact ⟨v, a1, Rp.kept k2 _ _ a2⟩
    | ow q m d0 =>
      obtain ⟨g1, g2⟩ := h4 _ _ _ ha
      rw [ha] at h2
      rcases g2 with ⟨d', e1, e2⟩ | ⟨d', e1, e2⟩
      · rw [ha] at e2
        rw [e2] at h2
        cases h2
      · rw [ha] at e2
        rw [e2] at h2
        cases h2
        subst e1
        obtain ⟨v, a1, a2⟩ := S'.va j _ _ h1
        exact ⟨v, by rw [← g1]; exact a1, Rp.kept k1 _ _ a2⟩
  · obtain ⟨d0, g1, g2, g3⟩ := outs_own hl E h
    obtain ⟨a, a1, a2⟩ := S'.ow j _ _ _ g2
    exact ⟨a, by rw [← g3]; exact a1, a2.kept k1 fun _ z => z⟩
  · obtain ⟨d0, g1, g2, g3⟩ := outs_own hl E h1
    obtain ⟨d1, f1, f2, f3⟩ := outs_own hl E h2
    rw [← g3] at h3
    rw [← f3] at h4
    exact S'.inj j j' _ _ _ _ _ _ a g2 f2 h3 h4
theorem leave_ev (S : SimZ K T Z as (vs.map some) H) (E : EvS K T Z (r0 as k) (s0 vs k) H r σ H') : EvE K T Z as (vs.map some) H (outs as r) H' := by
  have hl : as.length = vs.length := by have := S.len; rwa [List.length_map] at this
  refine ⟨leave_sim S E E.sim fun b z => .inl z, fun b o ho t n => E.ob b o ho t fun z => n ((mu0 hl b).mp z), E.dom, fun j s h => ?_⟩
  obtain ⟨s', h1, h2, h3, h4⟩ := outs_view hl E h
  exact ⟨_, h2, h3⟩
/-- a slot's own object leaves its slot -/
theorem drop_own {as : Env} {σ0 : L2.St} {i : Nat} {a : Addr} {d : D} (E : EvS K T Z as σ0 H r σ H') (h2 : r[i]? = some (.ow false false d)) (h1 : σ[i]? = some (some (.ref a))) :
    EvS K T Z as σ0 H (r.set i .un) σ H' ∧ SimZ K T (fun b => Z b ∨ b = a) (r.set i .un) σ H' ∧ RpO K (MuZ (fun b => Z b ∨ b = a) (r.set i .un) σ) H' false d a := by
  have S := E.sim
  have hi : i < r.length := (List.getElem?_eq_some_iff.mp h2).1
  have muP : ∀ p b, MuP p (r.set i .un) σ b → MuP p r σ b ∧ b ≠ a := by
    rintro p b ⟨j, l, d', m1, m2⟩
    rcases getSet m1 with ⟨_, e, _⟩ | ⟨ne, m1⟩
    · cases e
    · exact ⟨⟨j, l, d', m1, m2⟩, fun z => ne (S.inj i j _ _ _ _ _ _ a h2 m1 h1 (by rw [← z]; exact m2))⟩
  have mu : ∀ b, Mu (r.set i .un) σ b → Mu r σ b ∧ b ≠ a := fun b m => by
    obtain ⟨p, m⟩ := m.p
    exact ⟨(muP p b m).1.mu, (muP p b m).2⟩
  have ma : Mu r σ a := ⟨i, false, false, d, h2, h1⟩
  have less : ∀ b, MuZ (fun b => Z b ∨ b = a) (r.set i .un) σ b → MuZ Z r σ b := fun b z => by
    rcases z with z | z | z
    · exact .inl (mu b z).1
    · exact .inr z
    · rw [z]; exact .inl ma
  have kk : Kept (MuZ Z r σ) (MuZ (fun b => Z b ∨ b = a) (r.set i .un) σ) H' H' := Kept.less less
  have k1 : Kept (MuZ Z r σ) (MuZ Z (r.set i .un) σ) H' H' := Kept.less fun b z => less b (z.elim .inl fun z => .inr (.inl z))
  have sim : ∀ {Z1 : Addr → Prop}, Kept (MuZ Z r σ) (MuZ Z1 (r.set i .un) σ) H' H' → (∀ b, Z1 b → (Z b ∨ b = a)) → SimZ K T Z1 (r.set i .un) σ H' := fun {Z1} kk hz => by
    refine ⟨by rw [List.length_set]; exact S.len, fun j q d h => ?_, fun j q l d h => ?_, fun j j' q q' l l' d d' b g1 g2 g3 g4 => ?_, fun b z m => ?_, fun b z => ?_, S.tabs⟩
    · rcases getSet h with ⟨_, e, _⟩ | ⟨_, h⟩
      · cases e
      · obtain ⟨v, a1, a2⟩ := S.va j q d h
        exact ⟨v, a1, Rp.kept kk _ _ a2⟩
    · rcases getSet h with ⟨_, e, _⟩ | ⟨_, h⟩
      · cases e
      · obtain ⟨v, a1, a2⟩ := S.ow j q l d h
        exact ⟨v, a1, a2.kept kk fun _ z => z⟩
    · rcases getSet g1 with ⟨_, e, _⟩ | ⟨_, g1⟩
      · cases e
      · rcases getSet g2 with ⟨_, e, _⟩ | ⟨_, g2⟩
        · cases e
        · exact S.inj j j' _ _ _ _ _ _ b g1 g2 g3 g4
    · rcases hz b z with z | z
      · exact S.apart b z (mu b m).1
      · exact (mu b m).2 z
    · rcases hz b z with z | z
      · exact S.zin b z
      · rw [z]
        exact S.min a (.inl ma)
  refine ⟨⟨sim k1 fun b z => .inl z, E.ob, E.dom, fun p b m => E.mu p b (muP p b m).1, fun j s h => ?_⟩, sim kk fun b z => z, ?_⟩
  · obtain ⟨s', g1, g2, g3⟩ := E.slot j s h
    by_cases e : i = j
    · subst e
      rw [h2] at g1
      cases g1
      refine ⟨.un, List.getElem?_set_self hi, ?_, g3⟩
      cases s with
      | un => exact True.intro
      | va p d =>
        cases p with
        | true => cases (show Sl.ow false false _ = .va true d from g2)
        | false => exact True.intro
      | ow p l d =>
        cases p with
        | true => rcases g2 with ⟨d', e, _⟩ | ⟨_, d', e⟩ <;> cases e
        | false =>
          cases l with
          | true => cases (show Sl.ow false false _ = .ow false true d from g2)
          | false => exact True.intro
    · exact ⟨s', by rw [List.getElem?_set_ne e]; exact g1, g2, g3⟩
  · obtain ⟨b, b1, b2⟩ := S.ow i _ _ _ h2
    rw [h1] at b1
    cases b1
    exact b2.kept kk fun _ z => z
/-- what is returned -/
theorem leave_res {x : R} {v : V} {q : R} {r2 : Env} (S : SimZ K T Z as (vs.map some) H) (E : EvS K T Z (r0 as k) (s0 vs k) H r σ H') (h : ResR K T Z σ H r H' x v) (e : retR r x = some (q, r2)) :
    EvE K T Z as (vs.map some) H (outs as r2) H' ∧ ResR K T Z (vs.map some) H (outs as r2) H' q v := by
  have hl : as.length = vs.length := by have := S.len; rwa [List.length_map] at this
  have less : Kept (MuZ Z r σ) (MuZ Z (outs as r) (vs.map some)) H' H' := Kept.less fun b z => z.elim (fun z => .inl (outs_mu hl E b z).1) .inr
  cases x with
  | va d =>
    cases e
    exact ⟨leave_ev S E, Rp.kept less d v h⟩
  | nw d =>
    cases e
    obtain ⟨a, ev, na, S', o⟩ := h
    refine ⟨leave_ev S E, a, ev, na, leave_sim S E S' fun b z => z.elim .inl fun z => .inr (by rw [z]; exact na), o.kept (Kept.less fun b z => z.elim (fun z => .inl (outs_mu hl E b z).1) .inr) fun _ z => z⟩
  | sl i =>
    obtain ⟨h1, d0, h2⟩ := h
    rcases h2 with ⟨p, h2⟩ | ⟨p, l, h2⟩
    · have e' : q = .va d0 ∧ r2 = r := by
        simp only [retR, h2] at e
        cases p <;> (cases e; exact ⟨rfl, rfl⟩)
      obtain ⟨e1, e2⟩ := e'
      subst e1 e2
      obtain ⟨w, a1, a2⟩ := E.sim.va i p d0 h2
      rw [h1] at a1
      cases a1
      exact ⟨leave_ev S E, Rp.kept less d0 v a2⟩
    · cases l with
      | true => simp only [retR, h2] at e; cases p <;> cases e
      | false =>
        cases p with
        | false =>
          simp only [retR, h2] at e
          cases e
          obtain ⟨a, a1, a2⟩ := E.sim.ow i false false d0 h2
          rw [h1] at a1
          cases a1
          have na : H a = none := by
            rcases E.mu false a ⟨i, false, d0, h2, h1⟩ with m | m
            · obtain ⟨j, l, d, m1, m2⟩ := m
              rcases r0_at m1 with ⟨a0, _, e⟩ | ⟨_, e⟩
              · cases a0 <;> cases e
              · cases e
            · exact m.2
          obtain ⟨E1, S1, o⟩ := drop_own E h2 h1
          refine ⟨leave_ev S E1, a, rfl, na, leave_sim S E1 S1 fun b z => z.elim .inl fun z => .inr (by rw [z]; exact na), o.kept (Kept.less fun b z => z.elim (fun z => .inl (outs_mu hl E1 b z).1) .inr) fun _ z => z⟩
        | true =>
          simp only [retR, h2] at e
          cases e
          obtain ⟨E2, rp⟩ := esc_ok (x := .sl i) (d := d0) (r1 := r.set i (.va true d0)) E.sim (show Holds K Z r σ H' (.sl i) v from ⟨h1, d0, .inr ⟨true, false, h2⟩⟩) (by simp only [esc, h2])
          have E3 := E.trans (E2.s E.sim)
          exact ⟨leave_ev S E3, Rp.kept (Kept.less fun b z => z.elim (fun z => .inl (outs_mu hl E3 b z).1) .inr) _ _ rp⟩
end
end SE
set_option Elab.async false
set_option linter.all false
set_option maxRecDepth 100000
set_option maxHeartbeats 1000000
namespace SE
open PySem L2
/-- the def at f keeps its mirror's promise; gd: where no repr is under way -/
structure FnG (P : Program) (w : World) (K : PySem.W.Frag) (mg : Str → Option Value) (base : Heap) (T : List (Addr × Str)) (gd : Bool) (k : Nat) (f : Addr) (fd : FuncData) (ps : List Str) (F : Fn) : Prop where
  run : ∀ (A : Around) (outer : List PySem.Env) (s : Shared) (H : Hp) (args : Args) (us : List Value) (vs : List V) (Q : VK) (E : XK), (gd = true → A.guards = some []) → Room k A → Env0 P w K mg base A outer s H →
    BindsTo s fd args (ps.zip us) → Vals vs us → spF K T mg F ps.length vs H Q E → codeAny (model P w) A (Code.call (.ref f) args) (CR (L2N.CX P w) outer P w H s Q E) s
theorem FnG.mono {P : Program} {w : World} {K : PySem.W.Frag} {mg : Str → Option Value} {base : Heap} {T : List (Addr × Str)} {gd gd' : Bool} {k k' : Nat} {f : Addr} {fd : FuncData} {ps : List Str} {F : Fn}
    (h : FnG P w K mg base T gd k f fd ps F) (hk : k ≤ k') (hg : gd = true → gd' = true) : FnG P w K mg base T gd' k' f fd ps F :=
  ⟨fun A outer s H args us vs Q E g r => h.run A outer s H args us vs Q E (fun z => g (hg z)) (r.mono hk)⟩
theorem mkFn_ok {K : PySem.W.Frag} {T : List (Addr × Str)} {mg : Str → Option Value} {np nl : Nat} {d : DS} {vs : List V} {H : Hp} {Q : VK} {E : XK} (h : spF K T mg (mkFn np nl d) np vs H Q E) {X : Cx} (hX : X.K = K ∧ X.mg = mg) :
    ∃ Z, tS (gX X T (fun c dd _ H => E c dd H) Z) d { nx := fun _ H' => Q .non H', rt := Q } (vs.map some ++ List.replicate (nl - vs.length) none) H := by
  obtain ⟨hK, hm⟩ := hX
  subst hK hm
  obtain ⟨Z, as, S, hn, q⟩ := h
  have hl : as.length = vs.length := by have := S.len; rwa [List.length_map] at this
  refine ⟨Z, r0 as (nl - vs.length), enter_sim S, ?_⟩
  unfold mkFn at q
  rw [if_pos (by rw [hl, hn]), ← hn] at q
  cases hd : d (as.map inn ++ List.replicate (nl - vs.length) .un) with
  | nx r =>
    rw [hd] at q
    exact fun σ' H' E' => q .non H' (leave_ev S E') (by simp only [ResR, Rp])
  | bk r => rw [hd] at q; exact q.elim
  | ct r => rw [hd] at q; exact q.elim
  | rt x r =>
    rw [hd] at q
    dsimp only at q
    cases hr : retR r x with
    | none => rw [hr] at q; exact q.elim
    | some p =>
      obtain ⟨v, r'⟩ := p
      rw [hr] at q
      intro w σ' H' E' R
      obtain ⟨a, b⟩ := leave_res S E' R hr
      exact q w H' a b
  | ex e r =>
    rw [hd] at q
    exact fun c dd σ' H' E' x => q c dd H' (leave_ev S E') x
  | bad => rw [hd] at q; exact q.elim
theorem fnG_of {P : Program} {w : World} {K : PySem.W.Frag} {mg : Str → Option Value} {base : Heap} {T : List (Addr × Str)} {gd : Bool} {k : Nat} {f : Addr} {name qual : Str} {params : Arguments} {body : List Stmt} {scope : Scope} {dV kV doc pm cdv ct oc : Value}
    {an od : Option Addr} {osl : Array (Option Value)} {N ps : List Str} {d : DS}
    (lk : List.lookup f K = some { cls := oc, dict := od, data := Data.func (PySem.W.fnOf name qual params body scope dV kV doc pm an cdv ct), slots := osl }) (hc : PySem.W.codeIn K cdv qual = true) (sc : FnScope N ps scope)
    (hb : ∀ (A : Around) (outer : List PySem.Env) (s : Shared) (H : Hp) (E : XK) (Z : Addr → Prop), (gd = true → A.guards = some []) → Room k (A.deeper (PyProof.Rows.envOfC qual scope s.heap.objs.size f cdv)) →
      PSs (cxOf (L2N.CX P w) P w K mg base N qual scope f cdv A outer s H E) body (tS (gX (cxOf (L2N.CX P w) P w K mg base N qual scope f cdv A outer s H E) T (fun c dd _ H => E c dd H) Z) d)) :
    FnG P w K mg base T gd (k + 1) f (PySem.W.fnOf name qual params body scope dV kV doc pm an cdv ct) ps (mkFn ps.length N.length d) :=
  ⟨fun A outer s H args us vs Q E g r e0 b v h => LamX.run_ofS lk hc sc r e0 b v (by obtain ⟨_, _, _, e, _⟩ := h; exact e) fun r' => by
    obtain ⟨Z, q⟩ := mkFn_ok h (X := cxOf (L2N.CX P w) P w K mg base N qual scope f cdv A outer s H E) ⟨rfl, rfl⟩
    exact ⟨_, hb A outer s H E Z g r', q⟩⟩
section
variable {X : Cx} {T : List (Addr × Str)} {W : WX} {Z : Addr → Prop} {gd : Bool} {k : Nat} {f : Addr} {fd : FuncData} {ps : List Str} {F : Fn}
theorem run_fnG {E : St → XK} {pins : List (Addr × Obj)} {σ : St} {H : Hp} {s : Shared} {Q : VK} {us : List Value} {vs : List V} (Fk : FnG X.prog X.w X.K X.mg X.base T gd k f fd ps F) (hg : gd = true → X.A.guards = some []) (hr : Room k X.A)
    (hb : Binds X.K fd ps []) (hx : PassesAt (L2N.CX X.prog X.w) X σ (E σ)) (I : L2.Inv X pins σ H s) (r : Vals vs us) (h : spF X.K T X.mg F ps.length vs H Q (E σ)) : wpAny (model X.prog X.w) X.A (call (.ref f) us) (EP X pins σ Q) X.xe s := by
  have hl : us.length = ps.length := by
    rw [← Vals.length r]
    obtain ⟨_, _, _, e, _⟩ := h
    exact e
  have b := hb s us (Inv.kIn I) (by rw [List.append_nil]; exact hl)
  rw [List.append_nil] at b
  refine wpAny_call (codeAny_mono (Fk.run X.A X.stack s H { pos := us } us vs Q (E σ) hg hr (Inv.env0 I) b r h) fun rr s' hq => ?_)
  cases rr with
  | error e => exact hx pins H s e s' I hq
  | ok fl =>
    cases fl with
    | ret u => exact Inv.after I hq
    | _ => exact hq.elim
theorem pe_callG {E : St → XK} {x : Str} {p pos : Pos} {e : Expr} {es : List Expr} {t : TA} (Fk : FnG X.prog X.w X.K X.mg X.base T gd k f fd ps F) (hgd : gd = true → X.A.guards = some []) (hr : Room k X.A) (hg : Gl X x) (hm : X.mg x = some (.ref f))
    (hk : PySem.W.keepIn X.K (.ref f) = true) (hb : Binds X.K fd ps []) (hx : ∀ σ, PassesAt (L2N.CX X.prog X.w) X σ (E σ)) (ha : PA X (e :: es) t) (hdb : (x == Str.ofString "__debug__") = false)
    (he : starEach (e :: es) X.env = (false, eval e X.env) :: starEach es X.env) (hpl : ((backTo pos (starEach es X.env)).any fun x => x.1) = false) :
    PE X (.Call (.Name x p) (e :: es) [] pos) (tCallS (spF X.K T X.mg F ps.length) E t) :=
  ⟨fun pins s σ H Q I h => wpAny_Call_Name_kw (ld_glob I hg hm (PySem.W.callWith_K I.ok.mod.kin hk (thn (ha.run pos pins s σ H (fun vs H1 => spF X.K T X.mg F ps.length vs H1 Q (E σ)) I h) fun us s1 x => by
    obtain ⟨vs, H1, I1, r, q⟩ := x
    exact ⟨Inv.kIn I1, run_fnG Fk hgd hr hb (hx σ) I1 r q⟩) he hpl) hdb)⟩
theorem se_call {x : Str} {p pos : Pos} {e : Expr} {es : List Expr} {dr : DR} (tk : L2N.Takes X W) (Fk : FnG X.prog X.w X.K X.mg X.base T gd k f fd ps F) (hgd : gd = true → X.A.guards = some []) (hr : Room k X.A) (hg : Gl X x) (hm : X.mg x = some (.ref f))
    (hk : PySem.W.keepIn X.K (.ref f) = true) (hb : Binds X.K fd ps []) (ha : PA X (e :: es) (tR (gX X T W Z) dr)) (hln : (e :: es).length = ps.length) (hdb : (x == Str.ofString "__debug__") = false)
    (hs : ∀ a p, e ≠ .Starred a p) (hpl : ((backTo pos (starEach es X.env)).any fun x => x.1) = false) (hdr : ∀ r xs r', dr r = .ok xs r' → xs.length = (e :: es).length) :
    PE X (.Call (.Name x p) (e :: es) [] pos) (tE (gX X T W Z) (dCall F dr)) := by
  refine PE.imp (pe_callG Fk hgd hr hg hm hk hb (fun σ => L2N.passAt tk σ) ha hdb (star_cons hs) hpl) fun σ H Q q => ?_
  obtain ⟨r, S, q⟩ := q
  unfold dCall at q
  refine ⟨r, S, ?_⟩
  have q0 := aft_bind q
  cases hd : dr r with
  | bad => rw [hd] at q0; exact q0.elim
  | ex ee r1 => rw [hd] at q0; exact q0
  | ok xs r1 =>
    rw [hd] at q0
    intro vs H1 E1 R1
    have := call_ok S E1 R1 q0
    have el : vs.length = ps.length := by rw [← R1.len, hdr r xs r1 hd, hln]
    rw [el] at this
    exact this
end
end SE
set_option Elab.async false
set_option linter.all false
set_option maxRecDepth 100000
set_option maxHeartbeats 1000000
namespace SE
open PySem L2
/-- what a name of the module is -/
inductive GV where
  | con (d : D)
  | fn (np : Nat) (F : Fn) (gd : Bool)
  | blt
  | exc (up : List Str)
  | told (w : Str) (kf : Str → Option Str)
/-- where one stands -/
structure CC where
  N : List Str
  sc : Scope
  fc : List Str
  gl : List (Str × GV)
  mu : List Nat
  gd : Bool
  hm : Nat
  tl : Bool
/-- an own exception class, made with a text -/
structure ExcK (K : PySem.W.Frag) (C : Addr) : Prop where
  ok : ∀ (X : Cx), X.K = K → Raises X (.ref C) ∧ PySem.W.keepIn K (.ref C) = true ∧ ∃ B newId initId bmB, ExcBaseFacts B newId initId bmB ∧ PySem.W.excIn K C bmB newId = true
/-- a class that is made with a text alone bears the mark + in its family -/
def mkB (up : List Str) : Bool := up.contains (Str.ofString "+")
def Lv (T : List (Addr × Str)) (H H2 : Hp) : Prop := LamX.Tabs T H2 ∧ (∀ a o, H a = some o → (∀ ps, o ≠ .tbl ps) → H2 a = some o) ∧ ∀ a, H2 a = none → H a = none
def TToldN (T : List (Addr × Str)) (K : PySem.W.Frag) (mg : Str → Option Value) (w : Str) (kf : Str → Option Str) : (XK → Hp → VK → Prop) → Hp → VK → Prop := fun tl H Q =>
  tl (fun cls d H' => ∃ c k, mg c = some cls ∧ d = none ∧ kf c = some k ∧ LamX.Tabs T H' ∧ ∀ p H2, Lv T H' H2 → SqT K H2 p [.str k] → Q (.ref p) H2) H
    (fun v H' => [V.str w, v].length ≤ sizeLine ∧ ∀ p, H' p = none → Q (.ref p) (upd H' p (.tup [.str w, v])))
def GivesToN (X : Cx) (Ng : List Str) (x : Str) (sg : Scope) (g : Addr) (cdg : Value) (bg : List Stmt) (a q : Str) (TT : (XK → Hp → VK → Prop) → Hp → VK → Prop) : Prop :=
  ∀ (f c' : Addr) (s : Shared) (H : Hp) (Q : VK) (tl : XK → Hp → VK → Prop),
    (∀ (W : WX) (pn : List (Addr × Obj)) (xe : Value → Shared → Prop) (E : XK) (p1 p2 : Pos), L2N.Takes ((cxOf C8.CX0 X.prog X.w X.K X.mg X.base Ng x sg g cdg X.A X.stack s H C8.E0).tr pn xe) W → (∀ cls d σ' H', E cls d H' → W cls d σ' H') →
      PE ((cxOf C8.CX0 X.prog X.w X.K X.mg X.base Ng x sg g cdg X.A X.stack s H C8.E0).tr pn xe) (.Call (.Name a p1) [] [] p2) fun σZ HZ Q => σZ[0]? = some (some (V.ref f)) ∧ HZ c' = some (LamX.CodeO c' q) ∧ tl E HZ Q) →
    Room 0 (X.A.deeper (PyProof.Rows.envOfC x sg s.heap.objs.size g cdg)) → H c' = some (LamX.CodeO c' q) → TT tl H Q →
    ∃ t, PSs (cxOf C8.CX0 X.prog X.w X.K X.mg X.base Ng x sg g cdg X.A X.stack s H C8.E0).nox bg t ∧ t { nx := fun _ H' => Q V.non H', rt := Q } (L2.start Ng [V.ref f]) H
def dTold (w : Str) (kf : Str → Option Str) (d : DE) : DE := fun r => match d r with
  | .ok x r1 => (match esc r1 x with
    | some (z, r2) => .ok (.va (.tuple [.str w, z])) r2
    | none => .bad)
  | .ex e r1 => (match kf e.cls with
    | some k => .ok (.va (.tuple [.str k])) r1
    | none => .bad)
  | .bad => .bad
structure GOk (P : Program) (w : World) (K : PySem.W.Frag) (mg : Str → Option Value) (base : Heap) (T : List (Addr × Str)) (gl : List (Str × GV)) (lev : Nat) : Prop where
  con : ∀ x d, List.lookup x gl = some (.con d) → ∃ v u, mg x = some u ∧ L2.RelV v u ∧ ∀ M H, Rp K M H d v
  fn : ∀ x np F gd, List.lookup x gl = some (.fn np F gd) → ∃ k f fd ps, k ≤ lev ∧ mg x = some (.ref f) ∧ PySem.W.keepIn K (.ref f) = true ∧ Binds K fd ps [] ∧ ps.length = np ∧ FnG P w K mg base T gd k f fd ps F
  blt : ∀ x, List.lookup x gl = some .blt → mg x = none
  exc : ∀ x up, List.lookup x gl = some (.exc up) → ∃ C, mg x = some (.ref C) ∧ (mkB up = true → ExcK K C) ∧ L2.ExcC K C ∧ ∀ y uq, List.lookup y gl = some (.exc uq) → ∃ C', mg y = some (.ref C') ∧ PySem.W.kitOne K (.ref C) (.ref C') = some (up.contains y) ∧ PySem.W.exmOne K (.ref C) (.ref C') = some (up.contains y)
  told : ∀ x w' kf, List.lookup x gl = some (.told w' kf) → ∃ (g : Addr) (a : Str) (pg : Arguments) (bg : List Stmt) (sg : Scope) (dV kV doc pm : Value) (an : Option Addr) (cdv ct oc : Value) (od : Option Addr) (osl : Array (Option Value)) (Ng : List Str), mg x = some (.ref g) ∧ PySem.W.keepIn K (.ref g) = true ∧
    List.lookup g K = some { cls := oc, dict := od, data := Data.func (PySem.W.fnOf x x pg bg sg dV kV doc pm an cdv ct), slots := osl } ∧ PySem.W.codeIn K cdv x = true ∧ Binds K (PySem.W.fnOf x x pg bg sg dV kV doc pm an cdv ct) [a] [] ∧ FnScope Ng [a] sg ∧ Ng[0]? = some a ∧ Vis sg a ∧
    (a == Str.ofString "__debug__") = false ∧ (a == Str.ofString "__classdict__") = false ∧ ∀ X : Cx, X.prog = P → X.w = w → X.K = K → X.mg = mg → X.base = base → ∀ q, GivesToN X Ng x sg g cdv bg a q (TToldN T K mg w' kf)
structure OkX (X : Cx) (C : CC) (T : List (Addr × Str)) (W : WX) (lev : Nat) : Prop where
  g : GOk X.prog X.w X.K X.mg X.base T C.gl lev
  N : X.N = C.N
  sc : X.env.scope = C.sc
  nd : X.N.Nodup
  calm : C.hm = 0 → X.calm = true
  hot : C.hm = 1 → L2H.HotC X
  tld : C.tl = true → Room (lev + 2) X.A ∧ ∃ c P, LamX.TabB X.base X.mg c P ∧ X.env.code = Value.ref c ∧ (P, X.env.qual ++ Str.ofString "<lambda>") ∈ T ∧ ∀ p : Addr × Str, p ∈ T → p.1 = P → p.2 = X.env.qual ++ Str.ofString "<lambda>"
  tk : L2N.Takes X W
  room : C.hm = 0 → Room lev X.A
  un : X.A.units + 66 < cLine
  gd : C.gd = true → X.A.guards = some []
  fnc : ∀ x, x ∈ C.fc → X.fn x = true
def idx (N : List Str) (x : Str) : Option Nat := (N.findIdx? (· == x)).bind fun i => if N[i]? = some x then some i else none
theorem idx_ok {N : List Str} {x : Str} {i : Nat} (h : idx N x = some i) : N[i]? = some x := by
  obtain ⟨j, _, h⟩ := bind_some2 h
  by_cases e : N[j]? = some x
  · rw [if_pos e] at h
    cases h
    exact e
  · rw [if_neg e] at h; cases h
def visB (sc : Scope) (x : Str) : Bool := match List.lookup x sc.names with
  | some .local => true
  | some .cell => true
  | some .free => true
  | _ => false
def glB (sc : Scope) (x : Str) : Bool := match List.lookup x sc.names with
  | some .globalImplicit => true
  | _ => false
def locB (C : CC) (x : Str) : Bool := match List.lookup x C.sc.names with
  | some .local => true
  | some .cell => C.fc.contains x
  | _ => false
theorem visB_ok {sc : Scope} {x : Str} (h : visB sc x = true) : Vis sc x := by
  unfold visB at h
  split at h
  · rename_i e; exact .inl e
  · rename_i e; exact .inr (.inl e)
  · rename_i e; exact .inr (.inr e)
  · cases h
theorem glB_ok {X : Cx} {C : CC} {T : List (Addr × Str)} {W : WX} {lev : Nat} (o : OkX X C T W lev) {x : Str} (h : glB C.sc x = true) : Gl X x := by
  unfold glB at h
  split at h
  · rename_i e
    show List.lookup x X.env.scope.names = _
    rw [o.sc]
    exact e
  · cases h
def nDebug : Str := Str.ofString "__debug__"
def nClassdict : Str := Str.ofString "__classdict__"
def nName : Str := Str.ofString "__name__"
def okName (x : Str) : Bool := !(x == nDebug) && !(x == nClassdict) && !(x == nName)
theorem okName_ok {x : Str} (h : okName x = true) : (x == nDebug) = false ∧ (x == nClassdict) = false ∧ x ≠ nName := by
  simp only [okName, Bool.and_eq_true, Bool.not_eq_true'] at h
  refine ⟨h.1.1, h.1.2, fun e => ?_⟩
  have := h.2
  rw [e] at this
  simp at this
def slotOf (C : CC) (x : Str) : Option Nat := if (visB C.sc x && okName x) = true then idx C.N x else none
section
variable {X : Cx} {C : CC} {T : List (Addr × Str)} {W : WX} {lev : Nat}
theorem slot_ok (o : OkX X C T W lev) {x : Str} {i : Nat} {pos : Pos} (h : slotOf C x = some i) : PE X (.Name x pos) (tVar i) := by
  unfold slotOf at h
  by_cases hc : (visB C.sc x && okName x) = true
  · rw [if_pos hc] at h
    simp only [Bool.and_eq_true] at hc
    obtain ⟨a, b, _⟩ := okName_ok hc.2
    exact pv i (by rw [o.N]; exact idx_ok h) (by rw [o.sc]; exact visB_ok hc.1) a b
  · rw [if_neg hc] at h; cases h
theorem OkX.units (o : OkX X C T W lev) : X.A.units + 66 < cLine := by
  have := o.un
  omega
end
def constD : Const → Option D
  | .none => some .none
  | .bool b => some (.bool b)
  | .int i => some (.int i)
  | .str s => some (.str s)
  | _ => none
def opF : Operator → Option (D → D → Option R)
  | .Add => some fAdd
  | .Sub => some fSub
  | .Mult => some fMul
  | .FloorDiv => some fFdiv
  | .Mod => some fMod
  | .Pow => some fPow
  | .LShift => some fShl
  | .RShift => some fShr
  | .BitAnd => some fAnd
  | .BitXor => some fXor
  | _ => none
def cmpF : CmpOp → Option (D → D → Option R)
  | .Eq => some fEq
  | .NotEq => some fNe
  | .Lt => some fLt
  | .LtE => some fLe
  | .Gt => some fGt
  | .GtE => some fGe
  | .Is => some fIs
  | .IsNot => some fIsNot
  | .In => some fIn
  | .NotIn => some fNotIn
section
variable {X : Cx} {C : CC} {T : List (Addr × Str)} {W : WX} {Z : Addr → Prop} {lev : Nat}
theorem const_ok {c : Const} {d : D} {j : Nat} {pos : Pos} (h : constD c = some d) : PE X (.Constant c j pos) (tE (gX X T W Z) (dC d)) := by
  cases c <;> simp only [constD] at h <;> first | cases h | skip
  · exact se_const pe_non fun M H => by simp only [Rp]
  · exact se_const pe_bl fun M H => by simp only [Rp]
  · exact se_const pe_int fun M H => by simp only [Rp]
  · exact se_const pe_str fun M H => by simp only [Rp]
theorem op_ok {op : Operator} {f : D → D → Option R} (h : opF op = some f) : OpR X (binaryOp op) (rD X.K f) := by
  cases op <;> simp only [opF] at h <;> first | cases h | skip
  · exact op_add'
  · exact op_sub'
  · exact op_mul'
  · exact op_mod'
  · exact op_pow'
  · exact op_shl'
  · exact op_shr'
  · exact op_xor'
  · exact op_and'
  · exact op_fdiv'
theorem cmp_ok (o : OkX X C T W lev) {op : CmpOp} {f : D → D → Option R} (h : cmpF op = some f) : OpR X (compareOp op) (rD X.K f) := by
  have hu := o.units
  cases op <;> simp only [cmpF] at h <;> cases h
  · exact op_eq' (by omega)
  · exact op_ne' (by omega)
  · exact op_lt'
  · exact op_le'
  · exact op_gt'
  · exact op_ge'
  · exact op_is'
  · exact op_isnot'
  · exact op_in' (by omega)
  · exact op_notin' (by omega)
end
def bLen : Str := Str.ofString "len"
def bAbs : Str := Str.ofString "abs"
def bInt : Str := Str.ofString "int"
def bMin : Str := Str.ofString "min"
def bMax : Str := Str.ofString "max"
def bSum : Str := Str.ofString "sum"
def bAll : Str := Str.ofString "all"
def bAny : Str := Str.ofString "any"
def bTuple : Str := Str.ofString "tuple"
def bList : Str := Str.ofString "list"
def bSorted : Str := Str.ofString "sorted"
def bRepr : Str := Str.ofString "repr"
def bRange : Str := Str.ofString "range"
def cmO {α : Type} (cm : Bool) (a : α) : Option α := if cm = true then some a else none
theorem cmO_ok {α : Type} {cm : Bool} {a r : α} (h : cmO cm a = some r) : cm = true ∧ a = r := by
  unfold cmO at h
  by_cases c : cm = true
  · rw [if_pos c] at h; exact ⟨c, Option.some.inj h⟩
  · rw [if_neg c] at h; cases h
theorem ite_opt2 {α : Type} {c : Prop} [Decidable c] {a b : Option α} {r : α} (h : (if c then a else b) = some r) : (c ∧ a = some r) ∨ (¬ c ∧ b = some r) := by
  by_cases hc : c
  · rw [if_pos hc] at h; exact .inl ⟨hc, h⟩
  · rw [if_neg hc] at h; exact .inr ⟨hc, h⟩
def bltF (gd cm : Bool) (x : Str) : Option (List D → Option R) :=
  if x = bLen then some (f1 gLen) else if x = bAbs then some (f1 gAbs) else if x = bInt then some (f1 gInt) else if x = bMin then cmO cm fMin else if x = bMax then cmO cm fMax else
  if x = bSum then cmO cm (f1 gSum) else if x = bAll then cmO cm (f1 gAll) else if x = bAny then cmO cm (f1 gAny) else if x = bTuple then some (f1 gTuple) else if x = bList then some (f1 gList) else
  if x = bSorted then some (f1 gSorted) else if x = bRepr then (if gd = true then some (f1 gRepr) else none) else none
theorem ite_opt {α : Type} {c : Prop} [Decidable c] {a : α} {b : Option α} {r : α} (h : (if c then some a else b) = some r) : (c ∧ a = r) ∨ (¬ c ∧ b = some r) := by
  by_cases hc : c
  · rw [if_pos hc] at h
    exact .inl ⟨hc, Option.some.inj h⟩
  · rw [if_neg hc] at h
    exact .inr ⟨hc, h⟩
section
variable {X : Cx} {C : CC} {T : List (Addr × Str)} {W : WX} {Z : Addr → Prop} {lev : Nat} {x : Str} {f : List D → Option R} {e : Expr} {es : List Expr} {p pos : Pos} {dr : DR}
theorem blt_ok (o : OkX X C T W lev) (hx : bltF C.gd (C.hm == 0) x = some f) (hg : glB C.sc x = true) (hm : List.lookup x C.gl = some .blt) (hs : ∀ a ∈ e :: es, ∀ b p, a ≠ .Starred b p) (ha : PA X (e :: es) (tR (gX X T W Z) dr)) :
    PE X (.Call (.Name x p) (e :: es) [] pos) (tE (gX X T W Z) (dB f dr)) := by
  have h1 := glB_ok o hg
  have h2 := o.g.blt x hm
  have hu := o.units
  unfold bltF at hx
  rcases ite_opt hx with ⟨e1, e2⟩ | ⟨_, hx⟩
  · subst e1 e2
    exact se_callB cr_len' h1 h2 (by decide +kernel) (by decide +kernel) (by decide +kernel) hs ha
  rcases ite_opt hx with ⟨e1, e2⟩ | ⟨_, hx⟩
  · subst e1 e2
    exact se_callB cr_abs' h1 h2 (by decide +kernel) (by decide +kernel) (by decide +kernel) hs ha
  rcases ite_opt hx with ⟨e1, e2⟩ | ⟨_, hx⟩
  · subst e1 e2
    exact se_callTy cr_int' h1 h2 (by decide +kernel) (by decide +kernel) (by decide +kernel) hs ha
  rcases ite_opt2 hx with ⟨e1, e2⟩ | ⟨_, hx⟩
  · obtain ⟨cm, e2⟩ := cmO_ok e2
    subst e1 e2
    exact se_callB (cr_min' (o.calm (by simpa using cm)) hu) h1 h2 (by decide +kernel) (by decide +kernel) (by decide +kernel) hs ha
  rcases ite_opt2 hx with ⟨e1, e2⟩ | ⟨_, hx⟩
  · obtain ⟨cm, e2⟩ := cmO_ok e2
    subst e1 e2
    exact se_callB (cr_max' (o.calm (by simpa using cm)) hu) h1 h2 (by decide +kernel) (by decide +kernel) (by decide +kernel) hs ha
  rcases ite_opt2 hx with ⟨e1, e2⟩ | ⟨_, hx⟩
  · obtain ⟨cm, e2⟩ := cmO_ok e2
    subst e1 e2
    exact se_callB (cr_sum' (o.calm (by simpa using cm))) h1 h2 (by decide +kernel) (by decide +kernel) (by decide +kernel) hs ha
  rcases ite_opt2 hx with ⟨e1, e2⟩ | ⟨_, hx⟩
  · obtain ⟨cm, e2⟩ := cmO_ok e2
    subst e1 e2
    exact se_callB (cr_all' (o.calm (by simpa using cm))) h1 h2 (by decide +kernel) (by decide +kernel) (by decide +kernel) hs ha
  rcases ite_opt2 hx with ⟨e1, e2⟩ | ⟨_, hx⟩
  · obtain ⟨cm, e2⟩ := cmO_ok e2
    subst e1 e2
    exact se_callB (cr_any' (o.calm (by simpa using cm))) h1 h2 (by decide +kernel) (by decide +kernel) (by decide +kernel) hs ha
  rcases ite_opt hx with ⟨e1, e2⟩ | ⟨_, hx⟩
  · subst e1 e2
    exact se_callTy cr_tuple' h1 h2 (by decide +kernel) (by decide +kernel) (by decide +kernel) hs ha
  rcases ite_opt hx with ⟨e1, e2⟩ | ⟨_, hx⟩
  · subst e1 e2
    exact se_callTy cr_list' h1 h2 (by decide +kernel) (by decide +kernel) (by decide +kernel) hs ha
  rcases ite_opt hx with ⟨e1, e2⟩ | ⟨_, hx⟩
  · subst e1 e2
    exact se_callB cr_sorted' h1 h2 (by decide +kernel) (by decide +kernel) (by decide +kernel) hs ha
  by_cases hc : x = bRepr
  · rw [if_pos hc] at hx
    obtain ⟨g1, g2⟩ := ite_some hx
    subst hc g2
    exact se_callB (cr_repr' (o.gd g1) hu) h1 h2 (by decide +kernel) (by decide +kernel) (by decide +kernel) hs ha
  · rw [if_neg hc] at hx; cases hx
end
end SE
set_option Elab.async false
set_option linter.all false
set_option maxRecDepth 100000
set_option maxHeartbeats 2000000
namespace SE
open PySem L2
/-- the frame of a lambda -/
def lamCxN (X : Cx) (A : Around) (outer : List PySem.Env) (s : Shared) (H : Hp) (E : XK) (scope : Scope) (f c' : Addr) : Cx :=
  { LamX.lamCx X A outer s H E scope f c' with
    xe := fun e s' => wpAny (model X.prog X.w) (A.deeper (LamX.lamEnv X scope s.heap.objs.size f c')) (leaving (LamX.lamEnv X scope s.heap.objs.size f c') e) (fun _ s'' => L2N.CX X.prog X.w outer H s E e s'') (fun e' s'' => L2N.CX X.prog X.w outer H s E e' s'') s' }
theorem inv_lamN {X : Cx} {A : Around} {outer : List PySem.Env} {s : Shared} {H : Hp} {E : XK} {scope : Scope} {f c' : Addr} {pins : List (Addr × Obj)} {σ : L2.St} {H' : Hp} {s' : Shared} (J : L2.Inv (LamX.lamCx X A outer s H E scope f c') pins σ H' s') :
    L2.Inv (lamCxN X A outer s H E scope f c') pins σ H' s' :=
  ⟨⟨J.ok.mod, J.ok.kind, J.ok.glob, J.ok.blt, J.ok.above, J.ok.inj, J.ok.has, J.ok.cab, J.ok.hd, J.ok.frames, J.ok.stk, J.ok.exf, J.ok.bs, J.ok.bsz, J.ok.noex, J.ok.exfs, J.ok.funs, J.ok.frf⟩, J.os, J.bare, J.base, J.loc, J.cell, J.free, J.freeC, J.pin, J.hok, J.len⟩
theorem takes_lamN {X : Cx} {A : Around} {outer : List PySem.Env} {s : Shared} {H : Hp} {E : XK} {scope : Scope} {f c' : Addr} : L2N.Takes (lamCxN X A outer s H E scope f c') (fun cls d _ H => E cls d H) := L2N.takes_of rfl rfl rfl rfl
theorem pe_actN {X : Cx} {pins : List (Addr × Obj)} {σ : L2.St} {H : Hp} {s : Shared} {CXg : CXT} {Eg : XK} {Ng : List Str} {qg : Str} {sg : Scope} {g f c' : Addr} {cdg pm ctv : Value} {params : Arguments} {body : Expr} {scope : Scope} {k i : Nat} {a : Str}
    {pn : List (Addr × Obj)} {xe : Value → Shared → Prop} {W : WX} {E : XK} {tb : TE} {p1 p2 : Pos} (I : L2.Inv X pins σ H s) (L : LamX.LamS X.env.scope scope)
    (hf : s.heap.get? f = some (PySem.W.kla_obj (Str.ofString "<lambda>") (X.env.qual ++ Str.ofString "<lambda>") params body scope (cloFrom X.env.cells scope.names []) pm c' ctv)) (hfn : H f = none) (hfr : ¬ f ∈ frs X.stack)
    (hbind : bindArgs (PySem.W.kla_fn (Str.ofString "<lambda>") (X.env.qual ++ Str.ofString "<lambda>") params body scope (cloFrom X.env.cells scope.names []) pm (Value.ref c') ctv) { } = pure [])
    (tk : L2N.Takes ((cxOf CXg X.prog X.w X.K X.mg X.base Ng qg sg g cdg X.A X.stack s H Eg).tr pn xe) W) (hW : ∀ (cls : Value) (d : Option Addr) (σ' : L2.St) (H' : Hp), E cls d H' → W cls d σ' H')
    (hr : Room (k + 1) (X.A.deeper (PyProof.Rows.envOfC qg sg s.heap.objs.size g cdg)))
    (hbody : ∀ (A : Around) (outer : List PySem.Env) (s : Shared) (H : Hp), A.guards = X.A.guards → Room k (A.deeper (LamX.lamEnv X scope s.heap.objs.size f c')) → PE (lamCxN X A outer s H E scope f c') body tb)
    (hN : Ng[i]? = some a) (hv : Vis sg a) (hd : (a == Str.ofString "__debug__") = false) (hcd : (a == Str.ofString "__classdict__") = false) :
    PE ((cxOf CXg X.prog X.w X.K X.mg X.base Ng qg sg g cdg X.A X.stack s H Eg).tr pn xe) ((Expr.Name a p1).Call [] [] p2) fun σZ HZ Q => σZ[i]? = some (some (V.ref f)) ∧ HZ c' = some (LamX.CodeO c' (X.env.qual ++ Str.ofString "<lambda>")) ∧ tb σ HZ Q := by
  refine ⟨fun pinsZ sZ σZ HZ Q IZ h => ?_⟩
  obtain ⟨hs, hc, ht⟩ := h
  refine wpAny_Call_Name_kw (thn ((pe_var hN hv hd hcd).run pinsZ sZ σZ HZ (fun v H1 => v = V.ref f ∧ H1 = HZ) IZ ⟨V.ref f, hs, rfl, rfl⟩) fun u s1 x => ?_)
  obtain ⟨v, H1, I1, r1, ev, eH⟩ := x
  subst ev eH
  cases r1
  have of1 := I1.base.keep f _ hf hfn hfr (fun z => nomatch (show f ∈ ([] : List Addr) from z))
  refine PySem.W.callWith_F0 ⟨_, _, _, _, of1⟩ ?_
  have un := I1.base
  obtain ⟨⟨oc, vs, t, hoc, hdc, hvc⟩, hl1, hl2⟩ := I1.hok c' (LamX.CodeO c' (X.env.qual ++ Str.ofString "<lambda>")) hc
  have rc : codeAny (model X.prog X.w) (X.A.deeper (PyProof.Rows.envOfC qg sg s.heap.objs.size g cdg)) (Code.call (Value.ref f) { }) (CR (L2N.CX X.prog X.w) (PyProof.Rows.envOfC qg sg s.heap.objs.size g cdg :: X.stack) X.prog X.w H1 s1 Q E) s1 := by
    refine PySem.W.kla_callFunE hr.depth of1 rfl L.co L.gen rfl ⟨c', oc, vs, t, rfl, hoc, hdc, hvc⟩ ?_
    rw [hbind]
    refine wpAny_pure (wpAny_newFunctionEnv (fun y hy => (L.own y hy).2) (fun y hy => absurd hy (by simp)) (fun h₁ hns hsb => ⟨Heap.NoLimit.fresh I1.nolimit _ hsb, ?_⟩) L.kind)
    have kp : ∀ (b : Addr) (o : Obj), s1.heap.get? b = some o → h₁.get? b = some o := fun b o e => Heap.SameBut.extBut hsb b o (Nat.ne_of_lt (Heap.lt_size e)) (Heap.get?_push_of_some _ e)
    have J := LamX.lam_start2 (A := X.A.deeper (PyProof.Rows.envOfC qg sg s.heap.objs.size g cdg)) (outer := PyProof.Rows.envOfC qg sg s.heap.objs.size g cdg :: X.stack) (E := E) (tk := s1.toks + ([] : List (Str × Value)).length) (f := f) (c' := c') I L (Inv.env0 I1) hr.hd un hns kp
    refine PySem.W.kla_codeExpr (wpAny_mono ((hbody (X.A.deeper (PyProof.Rows.envOfC qg sg s.heap.objs.size g cdg)) (PyProof.Rows.envOfC qg sg s.heap.objs.size g cdg :: X.stack) s1 H1 rfl (hr.deeper _)).run [] { heap := h₁, gens := s1.gens, drawn := s1.drawn, toks := s1.toks + ([] : List (Str × Value)).length, os := s1.os } σ H1 Q (inv_lamN J) ht) (fun v s' hq => ?_) fun e s' hq => hq)
    obtain ⟨w', H', J', rv, q⟩ := hq
    exact ⟨w', H', J'.os, J'.bare, J'.base, J'.hok, rv, q⟩
  have hx := L2N.passes_call tk hW
  refine wpAny_call (codeAny_mono rc fun r s' hq => ?_)
  cases r with
  | error e => exact hx pinsZ σZ H1 s1 e s' I1 hq
  | ok fl =>
    cases fl with
    | ret u => exact Inv.after I1 hq
    | _ => exact hq.elim
end SE
set_option Elab.async false
set_option linter.all false
set_option maxRecDepth 100000
set_option maxHeartbeats 2000000
namespace SE
open PySem L2 LamX
theorem lam_makeN {X : Cx} {pins : List (Addr × Obj)} {σ : L2.St} {H : Hp} {s : Shared} {T : List (Addr × Str)} {c P : Addr} {params : Arguments} {body : Expr} {scope : Scope} {pos : Pos} {E Q : Value → Shared → Prop}
    (I : L2.Inv X pins σ H s) (TB : TabB X.base X.mg c P) (hcode : X.env.code = Value.ref c) (hm : (P, X.env.qual ++ Str.ofString "<lambda>") ∈ T)
    (hu : ∀ p : Addr × Str, p ∈ T → p.1 = P → p.2 = X.env.qual ++ Str.ofString "<lambda>") (hT : Tabs T H) (hdef : defaultsOf params X.env = ([], []))
    (hfree : ∀ y : Str × NameKind, y ∈ scope.names → y.2 = NameKind.free → ∃ c, X.env.cells.lookup y.1 = some c)
    (h : ∀ (f c' : Addr) (pm ctv : Value) (H1 : Hp) (s' : Shared), L2.Inv X pins σ H1 s' → ExtN H H1 → (∀ b, H1 b = none → H b = none) → Tabs T H1 →
      s'.heap.get? f = some (W.kla_obj (Str.ofString "<lambda>") (X.env.qual ++ Str.ofString "<lambda>") params body scope (cloFrom X.env.cells scope.names []) pm c' ctv) →
      H1 f = none → ¬ f ∈ frs X.stack → H1 c' = some (CodeO c' (X.env.qual ++ Str.ofString "<lambda>")) → Q (Value.ref f) s') :
    wpAny (model X.prog X.w) X.A (eval (Expr.Lambda params body scope pos) X.env) Q E s := by
  obtain ⟨ps, hP, ht, ha⟩ := hT _ hm
  refine W.kla_eval hdef ?_
  have bP := Heap.BuiltinsAt.keeps TB.bm (Inv.bk I)
  have hP' := I.hok P (HO.tbl ps) hP
  have nofr : ∀ f, s.heap.objs.size ≤ f → ¬ f ∈ frs X.stack := fun f hf z => by
    rcases List.mem_cons.mp (Inv.stkSub I f z) with e | e
    · have h1 := Inv.lt I
      rw [← e] at h1
      exact Nat.lt_irrefl f (Nat.lt_of_lt_of_le h1 hf)
    · exact Inv.nofs I hf e
  cases hc : codeAmong pos ps.toList with
  | none =>
    refine W.kla_makeFunction (closure_ok hfree) I.ok.glob (Heap.Ns.keeps (Inv.mod I).glob (Inv.bk I)) hcode (W.CodeHd.keeps TB.code (Inv.bk I)) hP' ht hc TB.gP bP fun c' ctv h' tk hx hge hlt hrec htb => ?_
    obtain ⟨c2, oc, vs, t, e2, hoc, hd, hv⟩ := hrec
    cases e2
    have hsz := Nat.le_trans hge (Nat.le_of_lt hlt)
    have nC := HOk.fresh I.hok hge
    have I1 := inv_table (t' := tk) I hP (fun b o hb e => Heap.get?_push_of_some (W.kla_obj (Str.ofString "<lambda>") (X.env.qual ++ Str.ofString "<lambda>") params body scope (cloFrom X.env.cells scope.names []) ((X.mg (Str.ofString "__name__")).getD Value.none) c' ctv) (hx b o hb e)) (Heap.get?_push_of_some _ htb) hge ⟨oc, vs, t, Heap.get?_push_of_some _ hoc, hd, hv⟩
    have hE : ExtN H (upd (upd H P (HO.tbl (ps ++ #[rawInt ↑pos.line, rawInt ↑pos.col, Value.ref c']))) c' (CodeO c' (X.env.qual ++ Str.ofString "<lambda>"))) := fun b o e n => by
      rw [upd_ne (ne_of_none e nC), upd_ne fun z => n ps (Option.some.inj (by rw [← e, z]; exact hP))]
      exact e
    have hD : ∀ b, (upd (upd H P (HO.tbl (ps ++ #[rawInt ↑pos.line, rawInt ↑pos.col, Value.ref c']))) c' (CodeO c' (X.env.qual ++ Str.ofString "<lambda>"))) b = none → H b = none := fun b e => by
      by_cases h1 : b = c'
      · subst h1; exact nC
      · rw [upd_ne h1] at e
        by_cases h2 : b = P
        · subst h2; rw [upd_same] at e; cases e
        · rwa [upd_ne h2] at e
    have eL : (ps ++ #[rawInt ↑pos.line, rawInt ↑pos.col, Value.ref c']).toList = ps.toList ++ [rawInt ↑pos.line, rawInt ↑pos.col, Value.ref c'] := by simp
    refine h h'.objs.size c' _ ctv _ _ I1 hE hD (fun p hp => ?_) (Heap.get?_push_size h' rfl) ?_ (nofr h'.objs.size hsz) upd_same
    · by_cases hb : p.1 = P
      · rw [hu p hp hb, hb]
        refine ⟨ps ++ #[rawInt ↑pos.line, rawInt ↑pos.col, Value.ref c'], ?_, ?_, ?_⟩
        · rw [upd_ne (ne_of_none hP nC), upd_same]
        · rw [eL]; exact TriplesOk_snoc (↑pos.line) (↑pos.col) (Value.ref c') ps.toList ht
        · intro p' cv hcv
          rw [eL] at hcv
          rcases among_app ps.toList ht hcv with z | z
          · obtain ⟨c0, e1, e2⟩ := ha p' cv z
            exact ⟨c0, e1, hE c0 _ e2 codeO_ne⟩
          · exact ⟨c', z, upd_same⟩
      · obtain ⟨ps', a1, a2, a3⟩ := hT p hp
        refine ⟨ps', ?_, a2, fun p' cv hcv => ?_⟩
        · rw [upd_ne (ne_of_none a1 nC), upd_ne hb]; exact a1
        · obtain ⟨c0, e1, e2⟩ := a3 p' cv hcv
          exact ⟨c0, e1, hE c0 _ e2 codeO_ne⟩
    · rw [upd_ne (Nat.ne_of_gt hlt), upd_ne (Nat.ne_of_gt (Nat.lt_of_lt_of_le (Heap.lt_size hP') hsz))]
      exact HOk.fresh I.hok hsz
  | some cv =>
    obtain ⟨c', e, hco⟩ := ha pos cv hc
    subst e
    refine W.kla_makeFunctionHit (closure_ok hfree) I.ok.glob (Heap.Ns.keeps (Inv.mod I).glob (Inv.bk I)) hcode (W.CodeHd.keeps TB.code (Inv.bk I)) hP' ht hc bP fun ctv h' tk hx hsz => ?_
    have I1 := Inv.kept (t' := tk) I (fun b o e => Heap.get?_push_of_some (W.kla_obj (Str.ofString "<lambda>") (X.env.qual ++ Str.ofString "<lambda>") params body scope (cloFrom X.env.cells scope.names []) ((X.mg (Str.ofString "__name__")).getD Value.none) c' ctv) (hx b o e))
    exact h h'.objs.size c' _ ctv H _ I1 (ExtN.refl H) (fun _ e => e) hT (Heap.get?_push_size h' rfl) (HOk.fresh I.hok hsz) (nofr h'.objs.size hsz) hco
end SE
set_option Elab.async false
set_option linter.all false
set_option maxRecDepth 100000
set_option maxHeartbeats 2000000
namespace SE
open PySem L2
def tLamN (T : List (Addr × Str)) (TT : (XK → Hp → VK → Prop) → Hp → VK → Prop) (t : XK → TE) : TE := fun σ H Q =>
  LamX.Tabs T H ∧ ∀ H1, LamX.ExtN H H1 → (∀ b, H1 b = none → H b = none) → LamX.Tabs T H1 → TT (fun E H' Q' => t E σ H' Q') H1 Q
theorem pe_lamcallN {X : Cx} {T : List (Addr × Str)} {TT : (XK → Hp → VK → Prop) → Hp → VK → Prop} {x a : Str} {g c P : Addr} {k : Nat} {pg : Arguments} {bg : List Stmt} {sg : Scope} {dV kV doc pm cdv ct oc : Value} {an od : Option Addr} {osl : Array (Option Value)} {Ng : List Str} {params : Arguments} {body : Expr} {scope : Scope} {t : XK → TE} {p lpos pos : Pos}
    (hg : Gl X x) (hm : X.mg x = some (Value.ref g)) (hk : PySem.W.keepIn X.K (Value.ref g) = true)
    (lk : List.lookup g X.K = some { cls := oc, dict := od, data := Data.func (PySem.W.fnOf x x pg bg sg dV kV doc pm an cdv ct), slots := osl })
    (hcg : PySem.W.codeIn X.K cdv x = true) (hb : Binds X.K (PySem.W.fnOf x x pg bg sg dV kV doc pm an cdv ct) [a] []) (Sg : FnScope Ng [a] sg) (hNg : Ng[0]? = some a) (hva : Vis sg a)
    (hG : GivesToN X Ng x sg g cdv bg a (X.env.qual ++ Str.ofString "<lambda>") TT) (TB : LamX.TabB X.base X.mg c P) (hcode : X.env.code = Value.ref c) (hmT : (P, X.env.qual ++ Str.ofString "<lambda>") ∈ T)
    (hu : ∀ p : Addr × Str, p ∈ T → p.1 = P → p.2 = X.env.qual ++ Str.ofString "<lambda>") (hr : Room (k + 2) X.A) (L : LamX.LamS X.env.scope scope) (hdef : defaultsOf params X.env = ([], []))
    (hbind : ∀ (q : Str) (cl : List (Str × Addr)) (pm cv ctv : Value), bindArgs (PySem.W.kla_fn (Str.ofString "<lambda>") q params body scope cl pm cv ctv) { } = pure [])
    (hbody : ∀ (A : Around) (outer : List PySem.Env) (s : Shared) (H : Hp) (E : XK) (f c' : Addr), A.guards = X.A.guards → Room k (A.deeper (LamX.lamEnv X scope s.heap.objs.size f c')) → PE (lamCxN X A outer s H E scope f c') body (t E))
    (hdb : (x == Str.ofString "__debug__") = false) (hd : (a == Str.ofString "__debug__") = false) (hcd : (a == Str.ofString "__classdict__") = false) :
    PE X (.Call (.Name x p) [.Lambda params body scope lpos] [] pos) (tLamN T TT t) := by
  refine ⟨fun pins s σ H Q I h => ?_⟩
  obtain ⟨hT, h⟩ := h
  refine wpAny_Call_Name_kw (ld_glob I hg hm ?_ hdb)
  refine PySem.W.callWith_K I.ok.mod.kin hk ?_ (Eq.refl (starEach [Expr.Lambda params body scope lpos] X.env)) rfl
  refine Calls.spliced_cons (lam_makeN I TB hcode hmT hu hT hdef (LamX.LamS.has L I.ok) fun f c' pm' ctv H1 s' I1 eN dm T1 hf hfn hfr hco => ?_)
  refine Calls.spliced_nil ⟨Inv.kIn I1, ?_⟩
  have rc := LamX.run_ofS (CX := C8.CX0) (E := C8.E0) (Q := Q) lk hcg Sg hr (Inv.env0 I1) (hb s' [Value.ref f] (Inv.kIn I1) rfl) (Paired.cons (show RelV (V.ref f) (Value.ref f) from rfl) Paired.nil) rfl fun hr' => by
    obtain ⟨t', ht', hq'⟩ := hG f c' s' H1 Q (fun E H' Q' => t E σ H' Q')
      (fun W pn xe E p1 p2 tk hW => pe_actN I1 L hf hfn hfr (hbind _ _ pm' (Value.ref c') ctv) tk hW hr' (fun A outer s H hgd hr2 => hbody A outer s H E f c' hgd hr2) hNg hva hd hcd)
      (hr'.mono (Nat.zero_le _)) hco (h H1 eN dm T1)
    exact ⟨t', PSs.nox ht', hq'⟩
  refine wpAny_call (codeAny_mono rc fun r s2 hq => ?_)
  cases r with
  | error e => exact hq.elim
  | ok fl =>
    cases fl with
    | ret u => exact Inv.after I1 hq
    | _ => exact hq.elim
theorem Lv.evE {K : PySem.W.Frag} {T : List (Addr × Str)} {Z : Addr → Prop} {r : Env} {σ : L2.St} {H H1 : Hp} (S : SimZ K T Z r σ H) (l : Lv T H H1) : EvE K T Z r σ H r H1 := by
  obtain ⟨tb, eN, dm⟩ := l
  have k : Kept (MuZ Z r σ) (MuZ Z r σ) H H1 := ⟨fun a o h n _ => eN a o h n, fun a z => .inl z⟩
  refine ⟨⟨S.len, fun i p d e => ?_, fun i p l d e => ?_, S.inj, S.apart, fun a z => ?_, tb⟩, fun a o h n _ => eN a o h n, dm, fun _ s h => ⟨s, h, SlE.refl s⟩⟩
  · obtain ⟨v, h1, h2⟩ := S.va i p d e
    exact ⟨v, h1, Rp.kept k _ _ h2⟩
  · obtain ⟨a, h1, h2⟩ := S.ow i p l d e
    exact ⟨a, h1, RpO.kept k h2 fun o ho => eN a o ho fun ps z => h2.noTb.1 ps (by rw [ho, z])⟩
  · obtain ⟨h1, h2⟩ := S.zin a z
    refine ⟨fun z => h1 (dm a z), h2.eq ?_⟩
    cases ho : H a with
    | none => exact (h1 ho).elim
    | some o => exact eN a o ho fun ps z => h2.1 ps (by rw [ho, z])
theorem tp_str {K : PySem.W.Frag} {T : List (Addr × Str)} {Z : Addr → Prop} {r : Env} {σ : L2.St} {H : Hp} {p : Addr} {k : Str} (S : SimZ K T Z r σ H) (h : SqT K H p [.str k]) : Rp K (MuZ Z r σ) H (.tuple [.str k]) (.ref p) := by
  simp only [Rp]
  refine ⟨p, [V.str k], rfl, ?_, RpL.cons (by simp only [Rp]) RpL.nil⟩
  rcases h with h | h
  · exact .inl ⟨h, fun z => (S.min p z).2.2 _ h⟩
  · exact .inr h
/-- told(lambda: e) -/
theorem told_read {X : Cx} {T : List (Addr × Str)} {W : WX} {Z : Addr → Prop} {w : Str} {kf : Str → Option Str} {d : DE} {σ : L2.St} {H : Hp} {Q : VK} (h : tE (gX X T W Z) (dTold w kf d) σ H Q) :
    tLamN T (TToldN T X.K X.mg w kf) (fun E => tE { K := X.K, T := T, mg := X.mg, W := fun c dd _ H => E c dd H, Z := Z } d) σ H Q := by
  obtain ⟨r, S, q⟩ := h
  refine ⟨S.tabs, fun H1 eN dm T1 => ?_⟩
  have l : Lv T H H1 := ⟨T1, eN, dm⟩
  have E0 : EvE X.K T Z r σ H r H1 := l.evE S
  refine ⟨r, E0.sim, ?_⟩
  unfold dTold at q
  cases hd : d r with
  | bad => rw [hd] at q; exact q.elim
  | ok x r1 =>
    rw [hd] at q
    intro v H2 E1 R1
    dsimp only at q
    cases hx : esc r1 x with
    | none => rw [hx] at q; exact q.elim
    | some zr =>
      obtain ⟨z, r2⟩ := zr
      rw [hx] at q
      obtain ⟨E2, rp⟩ := esc_ok E1.sim (R1.holds E0.sim E1) hx
      have E12 := (E0.trans S E1).trans S E2
      refine ⟨by rw [← lim_eq]; show 2 ≤ lim; unfold lim; omega, fun p hp => ?_⟩
      have ex : Ext H2 (upd H2 p (.tup [V.str w, v])) := Ext.new hp
      have np : ¬ MuZ Z r2 σ p := fun z => z.elim (fun z => by obtain ⟨o, ho⟩ := E12.sim.mem z; rw [hp] at ho; cases ho) fun z => (E12.sim.zin p z).1 hp
      obtain ⟨a1, a2⟩ := NewR.res (q := .va (.tuple [.str w, z])) (z := .ref p) S E12 ex (show Rp X.K _ _ (.tuple [.str w, z]) (.ref p) by
        simp only [Rp]
        exact ⟨p, [V.str w, v], rfl, .inl ⟨.inl upd_same, np⟩, RpL.cons (by simp only [Rp]) (RpL.cons (Rp.kept ⟨fun a o h _ _ => ex a o h, fun _ z => .inl z⟩ _ _ rp) RpL.nil)⟩)
      exact q _ _ a1 a2
  | ex e r1 =>
    rw [hd] at q
    intro c dd H2 E1 R1
    dsimp only at q
    obtain ⟨m1, m2, m3⟩ := R1
    cases hk : kf e.cls with
    | none => rw [hk] at q; exact q.elim
    | some k =>
      rw [hk] at q
      refine ⟨e.cls, k, m1, m3, hk, E1.sim.tabs, fun p H3 lv sq => ?_⟩
      have E2 := lv.evE E1.sim
      exact q _ _ ((E0.trans S E1).trans S E2) (tp_str E2.sim sq)
end SE
set_option Elab.async false
set_option linter.all false
set_option maxRecDepth 100000
set_option maxHeartbeats 2000000
namespace SE
open PySem L2
theorem wpAny_pureAll {α : Type} {M : Model} {A : Around} {E : Value → Shared → Prop} {s : Shared} {a : α} {Q : α → Shared → Prop} (h : ∀ a, Q a s) : wpAny M A (pure a) Q E s := wpAny_pure (h a)
theorem meets_enumerate_newT (l : Addr) (items : Array Value) (n : Nat) (dct : Option Addr) (sl : Array (Option Value)) :
    Meets (Builtin.«enumerate.__new__» { pos := [Value.type "enumerate", Value.ref l] }) fun x R s =>
      s.heap.get? l = some { cls := Value.type "tuple", dict := dct, data := Data.seq items n, slots := sl } ∧
        R (Except.ok (Flow.ret (Value.ref (s.heap.push { cls := Value.type "tuple_iterator", data := Data.fields #[Value.ref l, Value.int 0 0] }).objs.size)))
          { heap := (s.heap.push { cls := Value.type "tuple_iterator", data := Data.fields #[Value.ref l, Value.int 0 0] }).push
              { cls := Value.type "enumerate", data := Data.fields #[Value.none, Value.bool false, Value.ref s.heap.objs.size, rawInt 0, Value.none, Value.none] },
            gens := s.gens, drawn := s.drawn, toks := s.toks, os := s.os } := by
  refine Meets.of_wp fun prog w A R s h => ?_
  obtain ⟨hp, g, d, tk, os⟩ := s
  obtain ⟨hl, h⟩ := h
  have hsub := sub_enumerate
  have hL : PyProof.Rows.IsTup hp l items := ⟨_, hl, rfl, n, rfl⟩
  unfold Builtin.«enumerate.__new__»
  refine wpAny_bind (wpAny_bind (wpAny_pure (wpAny_ite_false rfl (wpAny_bind (wpAny_of_eq hsub (wpAny_ite_false rfl (wpAny_pure (wpAny_ite_true rfl (wpAny_bind (wpAny_bind (wpAny_stack_any fun st => wpAny_pureAll fun short => ?_)))))))))))
  cases short with
  | false =>
    refine wpAny_ite_false rfl (wpAny_bind (wpAny_of_eq (a := (Value.ref l, none)) rfl (wpAny_bind (PyProof.Rows.iter_tuple (s := { heap := hp, gens := g, drawn := d, toks := tk, os := os }) hL ?_))))
    refine wpAny_bind ?_
    unfold Builtin.SmallTypes.newRecord newObj
    refine wpAny_ite_false rfl ?_
    unfold newObjAsIs
    refine wpAny_bind (wpAny_alloc' (wpAny_pure ?_))
    exact wpAny_pure ⟨_, rfl, h⟩
  | true =>
    refine wpAny_ite_true rfl (wpAny_bind (wpAny_of_eq (a := (Value.ref l, none)) rfl (wpAny_bind (PyProof.Rows.iter_tuple (s := { heap := hp, gens := g, drawn := d, toks := tk, os := os }) hL ?_))))
    refine wpAny_bind ?_
    unfold Builtin.SmallTypes.newRecord newObj
    refine wpAny_ite_false rfl ?_
    unfold newObjAsIs
    refine wpAny_bind (wpAny_alloc' (wpAny_pure ?_))
    exact wpAny_pure ⟨_, rfl, h⟩

theorem call_enum_tuple {prog : Program} {w : World} {A : Around} {E : Value → Shared → Prop} {s : Shared} {l : Addr} {items : Array Value} {Q : Value → Shared → Prop} (hl : PyProof.Rows.IsTup s.heap l items)
    (h : ∀ (h' : Heap), IsEnum h' (s.heap.objs.size + 1) s.heap.objs.size 0 Value.none → h'.IsTupleIter s.heap.objs.size l 0 → h'.objs.size = s.heap.objs.size + 2 → (∀ (b : Addr) (o : Obj), s.heap.get? b = some o → h'.get? b = some o) →
      Q (Value.ref (s.heap.objs.size + 1)) { heap := h', gens := s.gens, drawn := s.drawn, toks := s.toks, os := s.os }) : wpAny (model prog w) A (call (Value.type "enumerate") [Value.ref l]) Q E s := by
  obtain ⟨⟨c, dd, da, sl⟩, ho, hc, n, hd⟩ := hl
  simp only at hc hd
  subst hc hd
  refine callType_new F.called_enumerate (by decide) (F.typeCall_enumerate_1 (Value.ref l)) (F.newCall_enumerate_1 (Value.ref l)) (fun obj => F.args_object_init_2 obj (Value.ref l)) F.entry_enumerate_new
    (meets_enumerate_newT l items n dd sl) ⟨ho, ?_⟩
  have hz := Heap.size_push s.heap { cls := Value.type "tuple_iterator", data := Data.fields #[Value.ref l, Value.int 0 0] }
  have he := Heap.get?_push_size (s.heap.push { cls := Value.type "tuple_iterator", data := Data.fields #[Value.ref l, Value.int 0 0] }) (o := { cls := Value.type "enumerate", data := Data.fields #[Value.none, Value.bool false, Value.ref s.heap.objs.size, rawInt 0, Value.none, Value.none] }) rfl
  have hi := Heap.get?_push_size s.heap (o := { cls := Value.type "tuple_iterator", data := Data.fields #[Value.ref l, Value.int 0 0] }) rfl
  rw [hz] at he
  show Shared.TypeIs _ (Value.ref _) "enumerate" ∧ _
  rw [hz]
  refine ⟨⟨_, he, rfl⟩, h _ he ⟨_, Heap.get?_push_of_some _ hi, rfl, rfl⟩ ?_ fun b o e => Heap.get?_push_of_some _ (Heap.get?_push_of_some _ e)⟩
  rw [Heap.size_push, hz]
def IteT (K : PySem.W.Frag) (a : Addr) : It :=
  { go := fun i H => ∃ xs x, SqT K H a xs ∧ xs[i]? = some x
    yld := fun i H v H' => ∃ T x, v = V.ref T ∧ H T = none ∧ H' = upd H T (HO.tup [V.int ↑i, x]) ∧ ∀ (xs : List V), SqT K H a xs → xs[i]? = some x
    stop := fun i H => ∃ xs, SqT K H a xs ∧ xs.length ≤ i }
theorem mem2 {a b c : Addr} (h : c ∈ [a, b]) : c = a ∨ c = b := by simpa using h
theorem sqT_inj {X : Cx} {pins : List (Addr × Obj)} {σ : L2.St} {H : Hp} {s : Shared} (I : L2.Inv X pins σ H s) {a : Addr} {xs ys : List V} (h : SqT X.K H a xs) (h' : SqT X.K H a ys) : xs = ys := I.tuple_inj h h'
theorem turn_enumT {P : Program} {w : World} {K : PySem.W.Frag} {elts : List Expr} {kk : Nat} {tpos : Pos} (a e it : Addr) :
    Turn P w K (Expr.Tuple elts kk tpos) (IteT K a) [e, it] e fun i h => (∃ old, IsEnum h e it (↑i) old) ∧ h.IsTupleIter it a i ∧ e ≠ it ∧ a ≠ it ∧ e ≠ a := by
  refine ⟨List.mem_cons_self, fun i h st b hb => ?_, fun i h h' st k => ?_, fun X hP hw hK hc i pins s σ H E I hf st hg => ?_, fun X hP hw hK hc i pins s σ H E I hf st hg => ?_, fun A i s Q E st h => ?_⟩
  · obtain ⟨⟨old, he⟩, ⟨o, ho, hc, hd⟩, _⟩ := st
    rcases mem2 hb with rfl | rfl
    · exact ⟨_, he, fun v q => by cases q⟩
    · exact ⟨o, ho, fun v q => by rw [hd] at q; cases q⟩
  · obtain ⟨⟨old, he⟩, ⟨o, ho, hc, hd⟩, hne⟩ := st
    exact ⟨⟨old, k e List.mem_cons_self _ he⟩, ⟨o, k it (List.mem_cons_of_mem _ List.mem_cons_self) _ ho, hc, hd⟩, hne⟩
  · subst hP hw hK
    obtain ⟨⟨old, he⟩, hit, hne, hne2, hne3⟩ := st
    obtain ⟨xs, x, hq, hx⟩ := hg
    obtain ⟨its, rv, p, hz⟩ := I.tuple hq
    obtain ⟨u, hu, ru⟩ := Vals.get rv hx
    have hel := Heap.lt_size he
    have hil : it < s.heap.objs.size := by
      obtain ⟨o, q, _⟩ := hit
      exact Heap.lt_size q
    have hlt : i < its.toArray.size := by
      have := (List.getElem?_eq_some_iff.mp hu).1
      simpa using this
    have D : Draws X.prog X.w X.A.in1 it [it, a] its.toArray.size (fun i v => its.toArray[i]? = some v) fun i h => h.IsTupleIter it a i ∧ h.IsTuple a its.toArray := by
      refine ⟨fun i h st => ?_, fun i h h' st k => ?_, fun i s Q E hi st hQ => ?_, fun s Q E st hE => ?_⟩
      · obtain ⟨⟨o, ho, _⟩, _⟩ := st
        exact ⟨o, ho⟩
      · obtain ⟨⟨o, ho, h1⟩, ⟨o2, ho2, h2⟩⟩ := st
        exact ⟨⟨o, k it List.mem_cons_self _ ho, h1⟩, ⟨o2, k a (List.mem_cons_of_mem _ List.mem_cons_self) _ ho2, h2⟩⟩
      · have e1 : its.toArray[i]? = some its.toArray[i] := by simp [hi]
        exact RZ.nextOf_tuple_item st.1 st.2 e1 fun h' hit' hs' => hQ _ h' s.toks e1 ⟨hit', by
          obtain ⟨o2, ho2, h2⟩ := st.2
          exact ⟨o2, by rw [hs'.2 a hne2]; exact ho2, h2⟩⟩ hs'
      · exact RZ.nextOf_tuple_end (I.ok.hd hc) st.1 st.2 (by simp) hE
    refine wpAny_pyNext_enum_itemD D he ⟨hit, p⟩ hlt hne (by simp [hne, hne3]) fun y h' tk hy ho hst hT hsz hk => ?_
    refine ⟨_, rfl, wpAny_letOwnedTupleGo_enum ho fun h'' he' sb => ?_⟩
    have hT2 := (sb.2 s.heap.objs.size (Nat.ne_of_gt hel)).trans hT
    have ey : y = u := by
      have e2 : its.toArray[i]? = some u := by simpa using hu
      rw [hy] at e2
      exact Option.some.inj e2
    subst ey
    have new : ObjOk X.prog X.w (upd H s.heap.objs.size (HO.tup [V.int ↑i, x])) h'' s.heap.objs.size (HO.tup [V.int ↑i, x]) :=
      ⟨by simp [sizeLine_eq], [Value.int ↑i tk, y], .cons ⟨tk, rfl⟩ (.cons ru .nil), ⟨_, hT2, rfl, 0, rfl⟩⟩
    refine ⟨V.ref s.heap.objs.size, upd H s.heap.objs.size (HO.tup [V.int ↑i, x]), I.turnedNew (ch := [e, it]) (fun b ob hb q => ?_) hf (Nat.le_refl _) new, rfl, ⟨s.heap.objs.size, x, rfl, HOk.fresh I.hok (Nat.le_refl _), rfl, fun ys hy => ?_⟩, ⟨⟨y, ?_⟩, ?_, hne, hne2, hne3⟩, fun b hb => ?_⟩
    · have n1 : b ≠ e := fun z => hb (by rw [z]; simp)
      have n2 : b ≠ it := fun z => hb (by rw [z]; simp)
      exact (sb.2 b n1).trans (hk b ob n1 n2 q)
    · rw [sqT_inj I hy hq]
      exact hx
    · have e1 : ((↑(i + 1) : Nat) : Int) = (↑i : Int) + 1 := by omega
      rw [e1]
      exact he'
    · obtain ⟨o, q, q2⟩ := hst.1
      exact ⟨o, (sb.2 it (Ne.symm hne)).trans q, q2⟩
    · have lt : b < s.heap.objs.size := by
        rcases mem2 hb with rfl | rfl
        · exact hel
        · exact hil
      rw [upd_ne (Nat.ne_of_lt lt)]
      exact (hf b hb).1
  · subst hP hw hK
    obtain ⟨⟨old, he⟩, hit, hne, hne2, hne3⟩ := st
    obtain ⟨xs, hq, hx⟩ := hg
    obtain ⟨its, rv, p, hz⟩ := I.tuple hq
    have hl := Vals.length rv
    have D : Draws X.prog X.w X.A.in1 it [it, a] i (fun _ _ => False) fun j h => j = i ∧ h.IsTupleIter it a i ∧ h.IsTuple a its.toArray := by
      refine ⟨fun i h st => ?_, fun i h h' st k => ?_, fun j s Q E hi st hQ => ?_, fun s Q E st hE => ?_⟩
      · obtain ⟨_, ⟨o, ho, _⟩, _⟩ := st
        exact ⟨o, ho⟩
      · obtain ⟨e0, ⟨o, ho, h1⟩, ⟨o2, ho2, h2⟩⟩ := st
        exact ⟨e0, ⟨o, k it List.mem_cons_self _ ho, h1⟩, ⟨o2, k a (List.mem_cons_of_mem _ List.mem_cons_self) _ ho2, h2⟩⟩
      · exact absurd st.1 (Nat.ne_of_lt hi)
      · exact RZ.nextOf_tuple_end (I.ok.hd hc) st.2.1 st.2.2 (by simp; omega) hE
    obtain ⟨f0, f1, f2, f3, f4, f5⟩ := hf it (List.mem_cons_of_mem _ List.mem_cons_self)
    exact wpAny_pyNext_enum_endD D he ⟨rfl, hit, p⟩ fun h' eb => ⟨rfl, I.turned (fun b o hb q => eb b o hb q) f0 f1 f3 f4 f5⟩
  · obtain ⟨⟨old, he⟩, _⟩ := st
    exact wpAny_pyIter_enum he h
end SE
set_option Elab.async false
set_option linter.all false
set_option maxRecDepth 100000
set_option maxHeartbeats 2000000
namespace SE
open PySem L2
def SqB (t : Bool) (K : PySem.W.Frag) (H : Hp) (a : Addr) (vs : List V) : Prop := if t = true then SqT K H a vs else SqL K H a vs
/-- the sequence at a stays ds, as Walk asks it -/
def Stays (K : PySem.W.Frag) (Z : Addr → Prop) (t : Bool) (a : Addr) (ds : List D) (lk : Option Nat) (r : Env) (σ : L2.St) (H : Hp) : Prop :=
  ∀ (M : Addr → Prop) (H1 : Hp), (∀ a o, H a = some o → (∀ ps, o ≠ .tbl ps) → ¬ Mu r σ a → H1 a = some o) → (∀ a, M a → MuZ Z r σ a ∨ H a = none) →
    (∀ j p d, (lk = some j ∧ r[j]? = some (.ow p false d)) ∨ r[j]? = some (.ow p true d) → ∃ a, σ[j]? = some (some (.ref a)) ∧ RpO K M H1 true d a) →
    ∃ vs, SqB t K H1 a vs ∧ RpL K M H1 ds vs
/-- what is walked: a tuple?, the items, the slot to be locked -/
def seqOf (x : R) (r : Env) : Option (Bool × List D × Option Nat) := match der r x with
  | some (.list ds) => some (false, ds, match x with
    | .sl i => match r[i]? with
      | some (.ow _ false _) => some i
      | _ => none
    | _ => none)
  | some (.tuple ds) => some (true, ds, none)
  | _ => none
section
variable {K : PySem.W.Frag} {T : List (Addr × Str)} {Z : Addr → Prop} {r r1 : Env} {σ : L2.St} {H H1 : Hp}
theorem ob_kept {M : Addr → Prop} {H2 : Hp} (ob : ∀ a o, H1 a = some o → (∀ ps, o ≠ .tbl ps) → ¬ Mu r1 σ a → H2 a = some o) (hM : ∀ a, M a → MuZ Z r1 σ a ∨ H1 a = none) : Kept (MuZ Z r1 σ) M H1 H2 :=
  ⟨fun b o hb t n => ob b o hb t fun z => n (.inl z), hM⟩
/-- a value's sequence -/
theorem stays_rp (S1 : SimZ K T Z r1 σ H1) {d : D} {ds : List D} {v : V} {t : Bool} (h : Rp K (MuZ Z r1 σ) H1 d v) (e : d = if t = true then .tuple ds else .list ds) :
    ∃ a vs, v = .ref a ∧ SqB t K H1 a vs ∧ Stays K Z t a ds none r1 σ H1 := by
  cases t with
  | true =>
    rw [if_pos rfl] at e
    subst e
    simp only [Rp] at h
    obtain ⟨a, vs, ev, hq, rl⟩ := h
    refine ⟨a, vs, ev, hq.sq, fun M H2 ob hM _ => ⟨vs, ?_, RpL.kept (ob_kept ob hM) ds vs rl⟩⟩
    have := Rp.kept (ob_kept ob hM) (.tuple ds) v (by simp only [Rp]; exact ⟨a, vs, ev, hq, rl⟩)
    rcases hq with ⟨hq, n⟩ | hq
    · exact .inl ((ob_kept ob hM).rd (fun ps z => by cases z) hq n).1
    · exact .inr hq
  | false =>
    rw [if_neg Bool.false_ne_true] at e
    subst e
    simp only [Rp] at h
    obtain ⟨a, vs, ev, hq, rl⟩ := h
    refine ⟨a, vs, ev, hq.sq, fun M H2 ob hM _ => ⟨vs, ?_, RpL.kept (ob_kept ob hM) ds vs rl⟩⟩
    rcases hq with ⟨hq, n⟩ | hq
    · exact .inl ((ob_kept ob hM).rd (fun ps z => by cases z) hq n).1
    · exact .inr hq
theorem stays_of (S1 : SimZ K T Z r1 σ H1) {x : R} {v : V} {t : Bool} {ds : List D} {lk : Option Nat} (hh : Holds K Z r1 σ H1 x v) (e : seqOf x r1 = some (t, ds, lk)) :
    ∃ a vs, v = .ref a ∧ SqB t K H1 a vs ∧ LkOk lk r1 ∧ Stays K Z t a ds lk r1 σ H1 := by
  unfold seqOf at e
  split at e
  · rename_i es hd
    cases x with
    | va d =>
      cases e
      simp only [der] at hd
      cases hd
      obtain ⟨a, vs, h1, h2, h3⟩ := stays_rp (t := false) S1 hh rfl
      exact ⟨a, vs, h1, h2, lkNone, h3⟩
    | nw d =>
      cases e
      simp only [der] at hd
      cases hd
      obtain ⟨a, ev, n, vs, hq, rl⟩ := hh
      refine ⟨a, vs, ev, .inl (.inl hq), lkNone, fun M H2 ob hM _ => ⟨vs, .inl (.inl (ob a _ hq (fun ps z => by cases z) n.1)), RpL.kept (ob_kept ob hM) _ _ rl⟩⟩
    | sl i =>
      obtain ⟨b1, d0, h2⟩ := hh
      rcases h2 with ⟨p, h2⟩ | ⟨p, l, h2⟩
      · simp only [h2] at e
        cases e
        simp only [der, h2] at hd
        cases hd
        obtain ⟨w, c1, c2⟩ := S1.va i p _ h2
        rw [b1] at c1
        cases c1
        obtain ⟨a, vs, h1, h2, h3⟩ := stays_rp (t := false) S1 c2 rfl
        exact ⟨a, vs, h1, h2, lkNone, h3⟩
      · simp only [der, h2] at hd
        cases hd
        obtain ⟨a, c1, vs, hq, rl⟩ := S1.ow i p l _ h2
        rw [b1] at c1
        cases c1
        cases l with
        | false =>
          simp only [h2] at e
          cases e
          refine ⟨a, vs, rfl, .inl (.inl hq), fun j z => by cases z; exact ⟨p, _, h2⟩, fun M H2 ob hM lk => ?_⟩
          obtain ⟨b, e1, vs2, e2, e3⟩ := lk i p _ (.inl ⟨rfl, h2⟩)
          rw [b1] at e1
          cases e1
          exact ⟨vs2, .inl (.inl e2), e3⟩
        | true =>
          simp only [h2] at e
          cases e
          refine ⟨a, vs, rfl, .inl (.inl hq), lkNone, fun M H2 ob hM lk => ?_⟩
          obtain ⟨b, e1, vs2, e2, e3⟩ := lk i p _ (.inr h2)
          rw [b1] at e1
          cases e1
          exact ⟨vs2, .inl (.inl e2), e3⟩
  · rename_i es hd
    cases e
    cases x with
    | va d =>
      simp only [der] at hd
      cases hd
      obtain ⟨a, vs, h1, h2, h3⟩ := stays_rp (t := true) S1 hh rfl
      exact ⟨a, vs, h1, h2, lkNone, h3⟩
    | nw d =>
      simp only [der] at hd
      cases hd
      obtain ⟨a, ev, n, o⟩ := hh
      exact o.elim
    | sl i =>
      obtain ⟨b1, d0, h2⟩ := hh
      rcases h2 with ⟨p, h2⟩ | ⟨p, l, h2⟩
      · simp only [der, h2] at hd
        cases hd
        obtain ⟨w, c1, c2⟩ := S1.va i p _ h2
        rw [b1] at c1
        cases c1
        obtain ⟨a, vs, h1, h2, h3⟩ := stays_rp (t := true) S1 c2 rfl
        exact ⟨a, vs, h1, h2, lkNone, h3⟩
      · simp only [der, h2] at hd
        cases hd
        obtain ⟨a, c1, c2⟩ := S1.ow i p l _ h2
        exact c2.elim
  · cases e
end
def enumD (ds : List D) : List D := (List.range ds.length).zipWith (fun (i : Nat) d => PyData.tuple [.int (i : Int), d]) ds
theorem enumD_len (ds : List D) : (enumD ds).length = ds.length := by simp [enumD]
theorem enumD_get {ds : List D} {i : Nat} {d : D} (h : (enumD ds)[i]? = some d) : ∃ e, ds[i]? = some e ∧ d = .tuple [.int (i : Int), e] := by
  unfold enumD at h
  rw [List.getElem?_zipWith] at h
  have hi : i < ds.length := by
    cases q : ds[i]? with
    | none => rw [q] at h; simp at h
    | some e => exact (List.getElem?_eq_some_iff.mp q).1
  rw [List.getElem?_range hi, List.getElem?_eq_getElem hi] at h
  exact ⟨_, List.getElem?_eq_getElem hi, (Option.some.inj h).symm⟩
def iEnumE (e : DE) : DI := fun r => (e r).bind fun x r1 => match seqOf x r1 with
  | some (_, ds, lk) => .ok (enumD ds, lk) r1
  | none => .bad
section
variable {K : PySem.W.Frag} {Z : Addr → Prop} {r : Env} {σ : L2.St} {H : Hp} {ds : List D} {lk : Option Nat} {a : Addr}
/-- where the items stand -/
theorem stay_walk {t : Bool} {J : It} (st : Stays K Z t a ds lk r σ H) (es : List D) (hl : es.length = ds.length) (hstop : ∀ i H1 vs, SqB t K H1 a vs → vs.length ≤ i → J.stop i H1)
    (hgo : ∀ i H1 vs x, SqB t K H1 a vs → vs[i]? = some x → J.go i H1)
    (hy : ∀ (i : Nat) (H1 H' : Hp) (M : Addr → Prop) (vs : List V) (x v : V) (e d : D), MIn M H1 → SqB t K H1 a vs → vs[i]? = some v → ds[i]? = some e → es[i]? = some d → Rp K M H1 e v → J.yld i H1 x H' → Ext H1 H' ∧ Rp K M H' d x) :
    Walk K Z J es lk r σ H := by
  intro i M H1 ob hM mi lkc
  obtain ⟨vs, sq, rl⟩ := st M H1 ob hM lkc
  have len := rl.length
  refine ⟨fun e => hstop i H1 vs sq (by omega), fun d hd => ?_⟩
  have hi : i < ds.length := by rw [← hl]; exact (List.getElem?_eq_some_iff.mp hd).1
  have e1 : ds[i]? = some ds[i] := List.getElem?_eq_getElem hi
  obtain ⟨v, h1, h2⟩ := rl.get e1
  exact ⟨hgo i H1 vs v sq h1, fun x H' y => hy i H1 H' M vs x v _ d mi sq h1 e1 hd h2 y⟩
theorem new_tup {K : PySem.W.Frag} {M : Addr → Prop} {H : Hp} {p : Addr} {ds : List D} {vs : List V} (m : MIn M H) (h : H p = none) (r : RpL K M H ds vs) : Rp K M (upd H p (.tup vs)) (.tuple ds) (.ref p) := nw_tup m h r
theorem walk_enum {t : Bool} (st : Stays K Z t a ds lk r σ H) : Walk K Z (if t = true then IteT K a else Ite K a) (enumD ds) lk r σ H := by
  cases t with
  | true =>
    rw [if_pos rfl]
    refine stay_walk st (enumD ds) (enumD_len ds) (fun i H1 vs sq h => ⟨vs, sq, h⟩) (fun i H1 vs x sq h => ⟨vs, x, sq, h⟩) fun i H1 H' M vs x v e d mi sq h1 h2 h3 h4 y => ?_
    obtain ⟨T, w, e1, e2, e3, e4⟩ := y
    have := e4 vs sq
    rw [h1] at this
    cases this
    obtain ⟨e', g1, g2⟩ := enumD_get h3
    rw [h2] at g1
    cases g1
    subst e1 e3 g2
    exact ⟨Ext.new e2, new_tup mi e2 (RpL.cons (by simp only [Rp]) (RpL.cons h4 RpL.nil))⟩
  | false =>
    rw [if_neg Bool.false_ne_true]
    refine stay_walk st (enumD ds) (enumD_len ds) (fun i H1 vs sq h => ⟨vs, sq, h⟩) (fun i H1 vs x sq h => ⟨vs, x, sq, h⟩) fun i H1 H' M vs x v e d mi sq h1 h2 h3 h4 y => ?_
    obtain ⟨T, w, e1, e2, e3, e4⟩ := y
    have := e4 vs sq
    rw [h1] at this
    cases this
    obtain ⟨e', g1, g2⟩ := enumD_get h3
    rw [h2] at g1
    cases g1
    subst e1 e3 g2
    exact ⟨Ext.new e2, new_tup mi e2 (RpL.cons (by simp only [Rp]) (RpL.cons h4 RpL.nil))⟩
end
theorem pi_enumT {X : Cx} {e : Expr} {ta : TA} {p pos tpos : Pos} {elts : List Expr} {kk : Nat} (hg : Gl X (Str.ofString "enumerate")) (hm : X.mg (Str.ofString "enumerate") = none) (ha : PA X [e] ta) (hs : starEach [e] X.env = [(false, eval e X.env)]) :
    PI X (Expr.Tuple elts kk tpos) ((Expr.Name (Str.ofString "enumerate") p).Call [e] [] pos) (fun σ H R => ta σ H fun vs H1 => ∃ a xs, vs = [V.ref a] ∧ SqT X.K H1 a xs ∧ R (IteT X.K a) H1) := by
  refine ⟨fun pins s σ H R I h => PyProof.Rows.Call_ (ld_blt I hg hm PyProof.Rows.boot_enumerate (PyProof.Rows.callWith_type1 (thn (ha.run pos pins s σ H (fun vs H1 => ∃ a xs, vs = [V.ref a] ∧ SqT X.K H1 a xs ∧ R (IteT X.K a) H1) I h) fun us s1 x => ?_) hs rfl) (by decide) (by decide)) rfl⟩
  obtain ⟨vs, H1, I1, r1, a, xs, ev, hq, q⟩ := x
  subst ev
  rw [Vals.ref1 r1]
  obtain ⟨its, rv, pt, hz⟩ := I1.tuple hq
  have lt : a < s1.heap.objs.size := by
    obtain ⟨o, h1, _⟩ := pt
    exact Heap.lt_size h1
  refine call_enum_tuple pt fun h' he hi hsz hk => wpAny_pyIter_enum he ?_
  have I2 : L2.Inv X pins σ H1 { heap := h', gens := s1.gens, drawn := s1.drawn, toks := s1.toks, os := s1.os } := I1.kept hk
  refine ⟨s1.heap.objs.size + 1, [s1.heap.objs.size + 1, s1.heap.objs.size], _, IteT X.K a, H1, rfl, I2, turn_enumT a _ _, ⟨⟨_, he⟩, hi, ?_, ?_, ?_⟩, fun b hb => ?_, q⟩
  · exact Nat.succ_ne_self _
  · exact Nat.ne_of_lt lt
  · exact (Nat.ne_of_lt (Nat.lt_succ_of_lt lt)).symm
  · have hle : s1.heap.objs.size ≤ b := by
      rcases mem2 hb with rfl | rfl
      · exact Nat.le_succ _
      · exact Nat.le_refl _
    exact I1.fpOk hle (HOk.fresh I1.hok hle)
section
variable {X : Cx} {T : List (Addr × Str)} {W : WX} {Z : Addr → Prop} {e e2 : Expr} {da db : DE} {p pos tpos : Pos} {elts : List Expr} {kk : Nat} {tg : Expr}
theorem si_enum (hg : Gl X (Str.ofString "enumerate")) (hm : X.mg (Str.ofString "enumerate") = none) (hs : ∀ b p, e ≠ .Starred b p) (ha : PE X e (tE (gX X T W Z) da)) :
    PI X (Expr.Tuple elts kk tpos) ((Expr.Name (Str.ofString "enumerate") p).Call [e] [] pos) (tI (gX X T W Z) (iEnumE da)) := by
  have hst : starEach [e] X.env = [(false, eval e X.env)] := by rw [star_cons hs]; rfl
  have hA := sr_cons hs ha (sr_nil (X := X) (T := T) (W := W) (Z := Z))
  refine PI.best fun σ H Rr q => ?_
  obtain ⟨r, S, q⟩ := q
  have q0 := aft_bind q
  cases hx : da r with
  | bad => rw [hx] at q0; exact q0.elim
  | ex ee r1 =>
    rw [hx] at q0
    refine ⟨_, pi_enum hg hm hA hst, r, S, ?_⟩
    unfold rCons
    rw [hx]
    exact q0
  | ok x r1 =>
    rw [hx] at q0
    have q0 : (match seqOf x r1 with
      | some (_, ds, lk) => Out.ok (enumD ds, lk) r1
      | none => .bad).aft _ _ := q0
    cases hq : seqOf x r1 with
    | none => rw [hq] at q0; exact q0.elim
    | some tdl =>
      obtain ⟨t, ds, lk⟩ := tdl
      rw [hq] at q0
      cases t with
      | true =>
        refine ⟨_, pi_enumT hg hm hA hst, r, S, ?_⟩
        unfold rCons
        rw [hx]
        intro vs H1 E1 R1
        obtain ⟨v, ws, ev, hv, hn⟩ := R1
        cases (show ws = [] from hn)
        obtain ⟨a, us, e1, e2, e3, e4⟩ := stays_of E1.sim hv hq
        subst e1
        exact ⟨a, us, ev, e2, q0 _ H1 E1 e3 (walk_enum e4)⟩
      | false =>
        refine ⟨_, pi_enum hg hm hA hst, r, S, ?_⟩
        unfold rCons
        rw [hx]
        intro vs H1 E1 R1
        obtain ⟨v, ws, ev, hv, hn⟩ := R1
        cases (show ws = [] from hn)
        obtain ⟨a, us, e1, e2, e3, e4⟩ := stays_of E1.sim hv hq
        subst e1
        exact ⟨a, us, ev, e2, q0 _ H1 E1 e3 (walk_enum e4)⟩
def zipD (xs ys : List D) : List D := List.zipWith (fun x y => PyData.tuple [x, y]) xs ys
theorem zipD_len (xs ys : List D) : (zipD xs ys).length = min xs.length ys.length := by simp [zipD]
theorem zipD_get {xs ys : List D} {i : Nat} {d : D} (h : (zipD xs ys)[i]? = some d) : ∃ x y, xs[i]? = some x ∧ ys[i]? = some y ∧ d = .tuple [x, y] := by
  unfold zipD at h
  rw [List.getElem?_zipWith] at h
  cases h1 : xs[i]? with
  | none => rw [h1] at h; simp at h
  | some x =>
    cases h2 : ys[i]? with
    | none => rw [h1, h2] at h; simp at h
    | some y =>
      rw [h1, h2] at h
      exact ⟨x, y, rfl, rfl, (Option.some.inj h).symm⟩
def iZipE (t : DA) : DI := fun r => (t r).bind fun ds r1 => match ds with
  | [.list xs, .list ys] => .ok (zipD xs ys, none) r1
  | [.tuple xs, .tuple ys] => .ok (zipD xs ys, none) r1
  | _ => .bad
theorem walk_zip2 {K : PySem.W.Frag} {r : Env} {σ : L2.St} {H : Hp} {t : Bool} {a b : Addr} {xs ys : List D} (s1 : Stays K Z t a xs none r σ H) (s2 : Stays K Z t b ys none r σ H) : Walk K Z (if t = true then RZ.ItzT K a b else Itz K a b) (zipD xs ys) none r σ H := by
  intro i M H1 ob hM mi lkc
  obtain ⟨vs, q1, l1⟩ := s1 M H1 ob hM lkc
  obtain ⟨ws, q2, l2⟩ := s2 M H1 ob hM lkc
  have n1 := l1.length
  have n2 := l2.length
  have item : ∀ d, (zipD xs ys)[i]? = some d → ∃ x y v w, d = .tuple [x, y] ∧ vs[i]? = some v ∧ ws[i]? = some w ∧ Rp K M H1 x v ∧ Rp K M H1 y w := fun d hd => by
    obtain ⟨x, y, h1, h2, e⟩ := zipD_get hd
    obtain ⟨v, a1, a2⟩ := l1.get h1
    obtain ⟨w, b1, b2⟩ := l2.get h2
    exact ⟨x, y, v, w, e, a1, b1, a2, b2⟩
  cases t with
  | true =>
    rw [if_pos rfl]
    refine ⟨fun e => ⟨vs, ws, q1, q2, by rw [zipD_len] at e; omega⟩, fun d hd => ?_⟩
    obtain ⟨x, y, v, w, e, a1, b1, a2, b2⟩ := item d hd
    refine ⟨⟨vs, ws, v, w, q1, q2, a1, b1⟩, fun z H' yl => ?_⟩
    obtain ⟨T, v', w', e1, e2, e3, e4, e5⟩ := yl
    have z1 := e4 vs q1
    have z2 := e5 ws q2
    rw [a1] at z1
    rw [b1] at z2
    cases z1
    cases z2
    subst e1 e3 e
    exact ⟨Ext.new e2, new_tup mi e2 (RpL.cons a2 (RpL.cons b2 RpL.nil))⟩
  | false =>
    rw [if_neg Bool.false_ne_true]
    refine ⟨fun e => ⟨vs, ws, q1, q2, by rw [zipD_len] at e; omega⟩, fun d hd => ?_⟩
    obtain ⟨x, y, v, w, e, a1, b1, a2, b2⟩ := item d hd
    refine ⟨⟨vs, ws, v, w, q1, q2, a1, b1⟩, fun z H' yl => ?_⟩
    obtain ⟨T, v', w', e1, e2, e3, e4, e5⟩ := yl
    have z1 := e4 vs q1
    have z2 := e5 ws q2
    rw [a1] at z1
    rw [b1] at z2
    cases z1
    cases z2
    subst e1 e3 e
    exact ⟨Ext.new e2, new_tup mi e2 (RpL.cons a2 (RpL.cons b2 RpL.nil))⟩
theorem rpl_two {K : PySem.W.Frag} {M : Addr → Prop} {H : Hp} {x y : D} {vs : List V} (h : RpL K M H [x, y] vs) : ∃ v w, vs = [v, w] ∧ Rp K M H x v ∧ Rp K M H y w := by
  simp only [RpL] at h
  obtain ⟨v, r, e, h1, w, r2, e2, h2, e3⟩ := h
  exact ⟨v, w, by rw [e, e2, e3], h1, h2⟩
theorem si_zip {dA : DA} (hg : Gl X (Str.ofString "zip")) (hm : X.mg (Str.ofString "zip") = none) (hs : ∀ b p, e ≠ .Starred b p) (hs2 : ∀ b p, e2 ≠ .Starred b p) (ha : PA X [e, e2] (tA (gX X T W Z) dA)) :
    PI X (Expr.Tuple elts kk tpos) ((Expr.Name (Str.ofString "zip") p).Call [e, e2] [] pos) (tI (gX X T W Z) (iZipE dA)) := by
  refine PI.imp (RZ.pi_zipA hg hm ha (star_cons hs) (star_not fun a ha => by simp only [List.mem_cons, List.not_mem_nil, or_false] at ha; rw [ha]; exact hs2)) fun σ H Rr q => ?_
  obtain ⟨r, S, q⟩ := q
  refine ⟨r, S, aft_mono (aft_bind q) (fun ds r1 q1 vs H1 E1 R1 => ?_) fun _ _ z => z⟩
  split at q1
  · obtain ⟨v, w, ev, h1, h2⟩ := rpl_two R1
    obtain ⟨a, us, e1, g1, s1⟩ := stays_rp (t := false) E1.sim h1 rfl
    obtain ⟨b, ws, e3, g2, s2⟩ := stays_rp (t := false) E1.sim h2 rfl
    subst e1 e3
    exact ⟨a, b, us, ws, ev, .inl ⟨g1, g2, q1 _ H1 E1 lkNone (walk_zip2 s1 s2)⟩⟩
  · obtain ⟨v, w, ev, h1, h2⟩ := rpl_two R1
    obtain ⟨a, us, e1, g1, s1⟩ := stays_rp (t := true) E1.sim h1 rfl
    obtain ⟨b, ws, e3, g2, s2⟩ := stays_rp (t := true) E1.sim h2 rfl
    subst e1 e3
    exact ⟨a, b, us, ws, ev, .inr ⟨g1, g2, q1 _ H1 E1 lkNone (walk_zip2 s1 s2)⟩⟩
  · exact q1.elim
def rngC (lo c : Int) (n : Nat) : List D := (List.range n).map fun (k : Nat) => PyData.int (lo + (k : Int) * c)
def rgOk (i j c : Int) : Bool := decide (c ≠ 0) && decide (c.natAbs < 1073741824) && Builtin.Range.small i j c && decide (0 ≤ Builtin.Range.rangeSize i j c)
def iRng3E (t : DA) : DI := fun r => (t r).bind fun ds r1 => match ds with
  | [.int i, .int j, .int c] => if rgOk i j c = true then .ok (rngC i c (Builtin.Range.rangeSize i j c).toNat, none) r1 else .bad
  | _ => .bad
theorem walk_rngC {K : PySem.W.Frag} {r : Env} {σ : L2.St} {H : Hp} {lo c : Int} {n : Nat} : Walk K Z (Itc lo c n) (rngC lo c n) none r σ H := by
  intro i M H1 ob hM _ _
  refine ⟨fun e => ?_, fun d hd => ?_⟩
  · have : (rngC lo c n).length = n := by simp [rngC]
    rw [this] at e
    show n ≤ i
    omega
  · unfold rngC at hd
    rw [List.getElem?_map] at hd
    by_cases hi : i < n
    · rw [List.getElem?_range hi] at hd
      have hd := (Option.some.inj hd).symm
      refine ⟨hi, fun x H' y => ?_⟩
      obtain ⟨e1, e2⟩ := y
      subst e1 e2 hd
      exact ⟨Ext.refl _, by simp only [Rp]⟩
    · rw [List.getElem?_eq_none (by rw [List.length_range]; omega)] at hd
      cases hd
theorem si_rng3 {a b c : Expr} {dA : DA} (hg : Gl X (Str.ofString "range")) (hm : X.mg (Str.ofString "range") = none) (hs : ∀ x ∈ [a, b, c], ∀ y p, x ≠ Expr.Starred y p) (ha : PA X [a, b, c] (tA (gX X T W Z) dA)) :
    PI X tg ((Expr.Name (Str.ofString "range") p).Call [a, b, c] [] pos) (tI (gX X T W Z) (iRng3E dA)) := by
  refine PI.imp (pi_range3 hg hm ha (star_cons (hs a List.mem_cons_self)) (star_not fun x hx => hs x (List.mem_cons_of_mem _ hx))) fun σ H Rr q => ?_
  obtain ⟨r, S, q⟩ := q
  refine ⟨r, S, aft_mono (aft_bind q) (fun ds r1 q1 vs H1 E1 R1 => ?_) fun _ _ z => z⟩
  split at q1
  · rename_i i j c
    by_cases hk : rgOk i j c = true
    · rw [if_pos hk] at q1
      simp only [rgOk, Bool.and_eq_true, decide_eq_true_eq] at hk
      obtain ⟨⟨⟨k1, k2⟩, k3⟩, k4⟩ := hk
      simp only [RpL, Rp] at R1
      obtain ⟨v1, r1', e1, h1, v2, r2, e2, h2, v3, r3, e3, h3, e4⟩ := R1
      subst h1 h2 h3
      exact ⟨i, j, c, _, by rw [e1, e2, e3, e4], ⟨k1, k2, k3, (Int.toNat_of_nonneg k4).symm⟩, q1 _ H1 E1 lkNone walk_rngC⟩
    · rw [if_neg hk] at q1; exact q1.elim
  · exact q1.elim
end
end SE
set_option Elab.async false
set_option linter.all false
set_option maxRecDepth 100000
set_option maxHeartbeats 2000000
namespace SE
open PySem L2
structure Cmp where
  E : CC → Expr → Option DE
  T : CC → Expr → Option DT
  S : CC → Stmt → Option DS
  Ss : CC → List Stmt → Option DS
def notStar : Expr → Bool
  | .Starred _ _ => false
  | _ => true
theorem notStar_ok {e : Expr} (h : notStar e = true) : ∀ a p, e ≠ .Starred a p := fun a p z => by rw [z] at h; cases h
def cR (E : Expr → Option DE) : List Expr → Option DR
  | [] => some rNil
  | e :: es => if notStar e = true then (E e).bind fun d => (cR E es).bind fun ds => some (rCons d ds) else none
def cA (E : Expr → Option DE) : List Expr → Option DA
  | [] => some aNil
  | e :: es => if notStar e = true then (E e).bind fun d => (cA E es).bind fun ds => some (aCons d ds) else none
theorem ite_none {α : Type} {c : Prop} [Decidable c] {a : Option α} {r : α} (h : (if c then a else none) = some r) : c ∧ a = some r := by
  by_cases hc : c
  · rw [if_pos hc] at h
    exact ⟨hc, h⟩
  · rw [if_neg hc] at h; cases h
section
variable {X : Cx} {T : List (Addr × Str)} {W : WX} {Z : Addr → Prop} {E : Expr → Option DE}
theorem cR_ok (hE : ∀ e d, E e = some d → PE X e (tE (gX X T W Z) d)) : ∀ {es : List Expr} {dr : DR}, cR E es = some dr → PA X es (tR (gX X T W Z) dr) ∧ (∀ a ∈ es, ∀ b p, a ≠ .Starred b p) ∧ ∀ r xs r', dr r = .ok xs r' → xs.length = es.length
  | [], dr, h => by
    cases h
    exact ⟨sr_nil, fun a h => (by cases h), fun r xs r' h => by cases h; rfl⟩
  | e :: es, dr, h => by
    obtain ⟨hs, h⟩ := ite_none h
    obtain ⟨d, hd, h⟩ := bind_some2 h
    obtain ⟨ds, hds, h⟩ := bind_some2 h
    cases h
    obtain ⟨a1, a2, a3⟩ := cR_ok hE hds
    refine ⟨sr_cons (notStar_ok hs) (hE e d hd) a1, fun a ha => ?_, fun r xs r' h => ?_⟩
    · rcases List.mem_cons.mp ha with rfl | ha
      · exact notStar_ok hs
      · exact a2 a ha
    · unfold rCons at h
      cases h1 : d r with
      | bad => rw [h1] at h; cases h
      | ex ee r1 => rw [h1] at h; cases h
      | ok x r1 =>
        rw [h1, bind_ok] at h
        cases h2 : ds r1 with
        | bad => rw [h2] at h; cases h
        | ex ee r1 => rw [h2] at h; cases h
        | ok ys r2 =>
          rw [h2, bind_ok] at h
          cases h
          rw [List.length_cons, List.length_cons, a3 _ _ _ h2]
theorem cA_ok (hE : ∀ e d, E e = some d → PE X e (tE (gX X T W Z) d)) : ∀ {es : List Expr} {dr : DA}, cA E es = some dr → PA X es (tA (gX X T W Z) dr) ∧ (∀ a ∈ es, ∀ b p, a ≠ .Starred b p)
  | [], dr, h => by
    cases h
    exact ⟨sa_nil, fun a h => (by cases h)⟩
  | e :: es, dr, h => by
    obtain ⟨hs, h⟩ := ite_none h
    obtain ⟨d, hd, h⟩ := bind_some2 h
    obtain ⟨ds, hds, h⟩ := bind_some2 h
    cases h
    obtain ⟨a1, a2⟩ := cA_ok hE hds
    refine ⟨sa_cons (notStar_ok hs) (hE e d hd) a1, fun a ha => ?_⟩
    rcases List.mem_cons.mp ha with rfl | ha
    · exact notStar_ok hs
    · exact a2 a ha
end
def cP (C : CC) : Nat → Expr → Option Pat
  | 0, _ => none
  | n + 1, e => match e with
    | .Name x _ => if locB C x = true then (idx C.N x).map .v else none
    | .Tuple es _ _ => if (C.hm == 0 && es.all notStar) = true then (es.mapM (cP C n)).map .t else none
    | _ => none
section
variable {X : Cx} {C : CC} {T : List (Addr × Str)} {W : WX} {Z : Addr → Prop} {lev : Nat}
theorem loc_ok (o : OkX X C T W lev) {x : Str} (h : locB C x = true) : L2.Loc X.env.scope x ∧ (X.fn x = true ∨ List.lookup x X.env.scope.names = some .local) := by
  unfold locB at h
  rw [o.sc]
  unfold L2.Loc
  split at h
  · rename_i e
    exact ⟨.inl e, .inr e⟩
  · rename_i e
    exact ⟨.inr e, .inl (o.fnc x (by simpa using h))⟩
  · cases h
theorem mapM_cons {α β : Type} {f : α → Option β} {a : α} {as : List α} {r : List β} (h : (a :: as).mapM f = some r) : ∃ b bs, f a = some b ∧ as.mapM f = some bs ∧ r = b :: bs := by
  rw [List.mapM_cons] at h
  obtain ⟨b, hb, h⟩ := bind_some2 h
  obtain ⟨bs, hbs, h⟩ := bind_some2 h
  cases h
  exact ⟨b, bs, hb, hbs, rfl⟩
theorem pgs_ok {P : Expr → Option Pat} : ∀ {es : List Expr} {ps : List Pat}, (∀ e ∈ es, ∀ p, P e = some p → PG X e (tG (gX X T W Z) p)) → es.all notStar = true → es.mapM P = some ps → PGs X es (tGs (gX X T W Z) ps) ∧ es.length = ps.length
  | [], ps, hE, hs, h => by
    cases h
    exact ⟨sgs_nil, rfl⟩
  | e :: es, ps, hE, hs, h => by
    obtain ⟨p, ps', h1, h2, e2⟩ := mapM_cons h
    subst e2
    simp only [List.all_cons, Bool.and_eq_true] at hs
    obtain ⟨a, b⟩ := pgs_ok (fun e he => hE e (List.mem_cons_of_mem _ he)) hs.2 h2
    exact ⟨sgs_cons (notStar_ok hs.1) (hE e List.mem_cons_self p h1) a, by rw [List.length_cons, List.length_cons, b]⟩
theorem cP_ok (o : OkX X C T W lev) : ∀ (n : Nat) {e : Expr} {p : Pat}, cP C n e = some p → PG X e (tG (gX X T W Z) p)
  | 0, e, p, h => by cases h
  | n + 1, e, p, h => by
    unfold cP at h
    split at h
    · obtain ⟨hl, h⟩ := ite_none h
      obtain ⟨i, hi, e⟩ := Option.map_eq_some_iff.mp h
      subst e
      obtain ⟨a, b⟩ := loc_ok o hl
      exact sg_name (pg_name o.nd (by rw [o.N]; exact idx_ok hi) a b)
    · rename_i es k pos
      obtain ⟨hs, h⟩ := ite_none h
      simp only [Bool.and_eq_true, beq_iff_eq] at hs
      obtain ⟨ps, hps, e⟩ := Option.map_eq_some_iff.mp h
      subst e
      obtain ⟨a, b⟩ := pgs_ok (fun e _ p hp => cP_ok o n hp) hs.2 hps
      refine sg_tup (o.calm hs.1) (fun e he => notStar_ok (List.all_eq_true.mp hs.2 e he)) b a
    · cases h
end
def isComp : Expr → Bool
  | .ListComp _ _ _ _ => true
  | .SetComp _ _ _ _ => true
  | .DictComp _ _ _ _ _ => true
  | _ => false
def isSet : Expr → Bool
  | .Set _ _ _ => true
  | _ => false
def isBlt (C : CC) (x : Str) : Bool := glB C.sc x && match List.lookup x C.gl with
  | some .blt => true
  | _ => false
theorem isBlt_ok {X : Cx} {C : CC} {T : List (Addr × Str)} {W : WX} {lev : Nat} (o : OkX X C T W lev) {x : Str} (h : isBlt C x = true) : Gl X x ∧ X.mg x = none := by
  simp only [isBlt, Bool.and_eq_true] at h
  refine ⟨glB_ok o h.1, o.g.blt x ?_⟩
  have h2 := h.2
  split at h2
  · assumption
  · cases h2
def bEnum : Str := Str.ofString "enumerate"
def bZip : Str := Str.ofString "zip"
def isTupT : Expr → Bool
  | .Tuple _ _ _ => true
  | _ => false
def cI (E : Expr → Option DE) (C : CC) (tg e : Expr) : Option DI :=
  match e with
  | .Call (.Name x _) [a] [] _ => if x = bRange ∧ isBlt C x = true ∧ notStar a = true then (E a).map SE.iRng1 else
      if x = bEnum ∧ isBlt C x = true ∧ notStar a = true ∧ isTupT tg = true then (E a).map iEnumE else (E e).map iSeq
  | .Call (.Name x _) [a, b] [] _ => if x = bRange ∧ isBlt C x = true ∧ notStar a = true ∧ notStar b = true then (E a).bind fun da => (E b).map fun db => SE.iRng2 da db else
      if x = bZip ∧ isBlt C x = true ∧ notStar a = true ∧ notStar b = true ∧ isTupT tg = true then (cA E [a, b]).map iZipE else (E e).map iSeq
  | .Call (.Name x _) [a, b, c] [] _ => if x = bRange ∧ isBlt C x = true then (cA E [a, b, c]).map iRng3E else (E e).map iSeq
  | e => (E e).map iSeq
section
variable {X : Cx} {C : CC} {T : List (Addr × Str)} {W : WX} {Z : Addr → Prop} {lev : Nat} {E : Expr → Option DE} {tg : Expr}
theorem cI_ok (o : OkX X C T W lev) (hE : ∀ e d, E e = some d → PE X e (tE (gX X T W Z) d)) {e : Expr} {it : DI} (h : cI E C tg e = some it) : PI X tg e (tI (gX X T W Z) it) := by
  have seq : (E e).map iSeq = some it → PI X tg e (tI (gX X T W Z) it) := fun h => by
    obtain ⟨d, hd, e2⟩ := Option.map_eq_some_iff.mp h
    subst e2
    exact si_seq (hE e d hd)
  unfold cI at h
  split at h
  · rename_i x px a pos
    by_cases hc : x = bRange ∧ isBlt C x = true ∧ notStar a = true
    · rw [if_pos hc] at h
      obtain ⟨d, hd, e2⟩ := Option.map_eq_some_iff.mp h
      subst e2
      obtain ⟨e1, e2, e3⟩ := hc
      obtain ⟨g1, g2⟩ := isBlt_ok o e2
      subst e1
      exact si_rng1 (fun ta hta => pi_range1 g1 g2 hta (by rw [star_cons (notStar_ok e3)]; rfl)) (notStar_ok e3) (hE a d hd)
    · rw [if_neg hc] at h
      by_cases hc : x = bEnum ∧ isBlt C x = true ∧ notStar a = true ∧ isTupT tg = true
      · rw [if_pos hc] at h
        obtain ⟨d, hd, e2⟩ := Option.map_eq_some_iff.mp h
        subst e2
        obtain ⟨e1, e2, e3, e4⟩ := hc
        obtain ⟨g1, g2⟩ := isBlt_ok o e2
        subst e1
        cases tg <;> first | exact si_enum g1 g2 (notStar_ok e3) (hE a d hd) | cases e4
      · rw [if_neg hc] at h
        exact seq h
  · rename_i x px a b pos
    by_cases hc : x = bRange ∧ isBlt C x = true ∧ notStar a = true ∧ notStar b = true
    · rw [if_pos hc] at h
      obtain ⟨d, hd, h⟩ := bind_some2 h
      obtain ⟨d2, hd2, e2⟩ := Option.map_eq_some_iff.mp h
      subst e2
      obtain ⟨e1, e2, e3, e4⟩ := hc
      obtain ⟨g1, g2⟩ := isBlt_ok o e2
      subst e1
      exact si_rng2 (fun ta hta => pi_range2 g1 g2 hta (by rw [star_cons (notStar_ok e3), star_cons (notStar_ok e4)]; rfl) (by rw [star_cons (notStar_ok e4)]; rfl)) (notStar_ok e3) (notStar_ok e4) (hE a d hd) (hE b d2 hd2)
    · rw [if_neg hc] at h
      by_cases hc : x = bZip ∧ isBlt C x = true ∧ notStar a = true ∧ notStar b = true ∧ isTupT tg = true
      · rw [if_pos hc] at h
        obtain ⟨d, hd, e2⟩ := Option.map_eq_some_iff.mp h
        subst e2
        obtain ⟨e1, e2, e3, e4, e5⟩ := hc
        obtain ⟨g1, g2⟩ := isBlt_ok o e2
        subst e1
        cases tg <;> first | exact si_zip g1 g2 (notStar_ok e3) (notStar_ok e4) (cA_ok hE hd).1 | cases e5
      · rw [if_neg hc] at h
        exact seq h
  · rename_i x px a b c pos
    by_cases hc : x = bRange ∧ isBlt C x = true
    · rw [if_pos hc] at h
      obtain ⟨d, hd, e2⟩ := Option.map_eq_some_iff.mp h
      subst e2
      obtain ⟨e1, e2⟩ := hc
      obtain ⟨g1, g2⟩ := isBlt_ok o e2
      subst e1
      obtain ⟨a1, a2⟩ := cA_ok hE hd
      exact si_rng3 g1 g2 a2 a1
    · rw [if_neg hc] at h
      exact seq h
  · exact seq h
end
def reSc (scope sc : Scope) : Scope :=
  { kind := scope.kind
    names := scope.names.map fun (n, k) => if (k == NameKind.free && sc.kind == ScopeKind.function && List.lookup n sc.names == some NameKind.cell) = true then (n, NameKind.cell) else (n, k)
    isGenerator := scope.isGenerator, isCoroutine := scope.isCoroutine, more := scope.more }
theorem reSc_eq (scope : Scope) (env : PySem.Env) : relabel scope env = reSc scope env.scope := rfl
def ownOf (N : List Str) (scope : Scope) : List (Str × Nat) := scope.names.filterMap fun (n, k) => match k with
  | .local => (idx N n).map fun i => (n, i)
  | .cell => (idx N n).map fun i => (n, i)
  | _ => none
abbrev ownIx (N : List Str) (scope : Scope) : List Nat := (ownOf N scope).map fun (x : Str × Nat) => x.2
def cellsOf (scope : Scope) : List Str := (scope.names.filter fun (_, k) => k == NameKind.cell).map (·.1)
def blkCC (C : CC) (scope : Scope) : CC := { C with sc := reSc scope C.sc, fc := cellsOf scope, hm := if C.hm = 0 then 0 else 2, tl := false }
theorem blkHm {C : CC} {scope : Scope} (h : (blkCC C scope).hm = 0) : C.hm = 0 := by
  unfold blkCC at h
  by_cases e : C.hm = 0
  · exact e
  · simp only [if_neg e] at h; cases h
theorem blkHm1 {C : CC} {scope : Scope} (h : (blkCC C scope).hm = 1) : False := by
  unfold blkCC at h
  by_cases e : C.hm = 0
  · simp only [if_pos e] at h; cases h
  · simp only [if_neg e] at h; cases h
theorem takesW {X : Cx} : L2N.Takes X noW := fun u s' ⟨a, B, sI, pins, σ, H, cls, d, h⟩ => h.2.2.2.2.2.2.2.2.elim
theorem okBlk {X : Cx} {C : CC} {T : List (Addr × Str)} {W : WX} {lev : Nat} (o : OkX X C T W lev) {scope : Scope} (hu : ∀ (y : Str × NameKind), y ∈ scope.names → List.lookup y.1 scope.names = some y.2) (s : Shared) (H : Hp) (Cl : Addr) (cl : List (Str × Addr)) (fp : List Addr) :
    OkX (X.blk s H scope (compEnvC scope cl Cl X.env) fp) (blkCC C scope) T noW lev := by
  refine ⟨o.g, o.N, ?_, o.nd, fun z => o.calm (blkHm z), fun z => (blkHm1 z).elim, (fun z => nomatch z), takesW, fun z => o.room (blkHm z), o.un, o.gd, fun x hx => ?_⟩
  · show (compEnvC scope cl Cl X.env).scope = reSc scope C.sc
    rw [← o.sc]
    rfl
  · show (List.lookup x scope.names == some .cell) = true
    unfold blkCC cellsOf at hx
    simp only [List.mem_map, List.mem_filter] at hx
    obtain ⟨y, ⟨hy, hk⟩, e⟩ := hx
    have := hu y hy
    rw [← e, this]
    exact hk
def cLc (c : Cmp) (C : CC) : Expr → Option DE
  | .ListComp elt [g] scope _ =>
    if (C.hm == 0 && (blkC C.N C.sc scope (ownOf C.N scope) && g.is_async == 0 && !isSet g.iter)) = true then
      (cI (c.E C) C g.target g.iter).bind fun it => (cP (blkCC C scope) 4 g.target).bind fun p =>
        if (pslots p).all (fun j => ((ownIx C.N scope).contains j)) = true then
          (match g.ifs with
            | [] => some tYes
            | [f] => c.T (blkCC C scope) f
            | _ => none).bind fun t => (c.E (blkCC C scope) elt).map fun d => dLc (ownIx C.N scope) it p t d
        else none
    else none
  | _ => none
structure Sound (c : Cmp) : Prop where
  E : ∀ {X : Cx} {C : CC} {T : List (Addr × Str)} {W : WX} {lev : Nat} {e : Expr} {d : DE}, OkX X C T W lev → c.E C e = some d → ∀ Z, PE X e (tE (gX X T W Z) d)
  T : ∀ {X : Cx} {C : CC} {T : List (Addr × Str)} {W : WX} {lev : Nat} {e : Expr} {d : DT}, OkX X C T W lev → c.T C e = some d → ∀ Z, PT X e (tT (gX X T W Z) d)
  S : ∀ {X : Cx} {C : CC} {T : List (Addr × Str)} {W : WX} {lev : Nat} {e : Stmt} {d : DS}, OkX X C T W lev → PassesOwn (model X.prog X.w) X.A X.env X.xe → c.S C e = some d → ∀ Z, PS X e (tS (gX X T W Z) d)
  Ss : ∀ {X : Cx} {C : CC} {T : List (Addr × Str)} {W : WX} {lev : Nat} {e : List Stmt} {d : DS}, OkX X C T W lev → PassesOwn (model X.prog X.w) X.A X.env X.xe → c.Ss C e = some d → ∀ Z, PSs X e (tS (gX X T W Z) d)
theorem fold_ok {e : Expr} {env : PySem.Env} (h : isSet e = false) : ∀ x, foldedSetIterable e env x = pure x := fun x => by
  cases e <;> first | rfl | cases h
/-- the parts of a comprehension -/
theorem lc_parts {c : Cmp} (hc : Sound c) {X : Cx} {C : CC} {T : List (Addr × Str)} {W : WX} {lev : Nat} (o : OkX X C T W lev) {elt : Expr} {g : Comprehension} {scope : Scope} {pos : Pos} {d : DE} (h : cLc c C (.ListComp elt [g] scope pos) = some d) (Z : Addr → Prop) :
    ∃ it p t de, d = dLc (ownIx C.N scope) it p t de ∧ C.hm = 0 ∧ g.is_async = 0 ∧ PI X g.target g.iter (tI (gX X T W Z) it) ∧ BlkOk X.N X.env.scope scope (ownOf C.N scope) ∧ (∀ j ∈ pslots p, j ∈ ownIx C.N scope) ∧
      (∀ (s : Shared) (H : Hp) (Cl : Addr) (cl : List (Str × Addr)) (fp : List Addr) (Z' : Addr → Prop), PG (X.blk s H scope (compEnvC scope cl Cl X.env) fp) g.target (tG (gB X T Z') p)) ∧
      (∀ (s : Shared) (H : Hp) (Cl : Addr) (cl : List (Str × Addr)) (fp : List Addr) (Z' : Addr → Prop), PTs (X.blk s H scope (compEnvC scope cl Cl X.env) fp) g.ifs (tT (gB X T Z') t)) ∧
      (∀ (s : Shared) (H : Hp) (Cl : Addr) (cl : List (Str × Addr)) (fp : List Addr) (Z' : Addr → Prop), PE (X.blk s H scope (compEnvC scope cl Cl X.env) fp) elt (tE (gB X T Z') de)) ∧ ∀ x, foldedSetIterable g.iter X.env x = pure x := by
  unfold cLc at h
  obtain ⟨hk, h⟩ := ite_none h
  simp only [Bool.and_eq_true, beq_iff_eq, Bool.not_eq_true'] at hk
  obtain ⟨hk0, ⟨hk1, hk2⟩, hk3⟩ := hk
  obtain ⟨it, h1, h⟩ := bind_some2 h
  obtain ⟨p, h2, h⟩ := bind_some2 h
  obtain ⟨hp, h⟩ := ite_none h
  obtain ⟨t, h3, h⟩ := bind_some2 h
  obtain ⟨de, h4, e⟩ := Option.map_eq_some_iff.mp h
  have bo : BlkOk C.N C.sc scope (ownOf C.N scope) := blkOk_by hk1
  have ob := fun s H Cl cl fp => okBlk o (scope := scope) bo.uniq s H Cl cl fp
  refine ⟨it, p, t, de, e.symm, hk0, hk2, cI_ok o (fun e d he => hc.E o he Z) h1, by rw [o.N, o.sc]; exact bo, fun j hj => ?_, fun s H Cl cl fp Z' => cP_ok (ob s H Cl cl fp) 4 h2, fun s H Cl cl fp Z' => ?_, fun s H Cl cl fp Z' => hc.E (ob s H Cl cl fp) h4 Z', fold_ok hk3⟩
  · have := List.all_eq_true.mp hp j hj
    simpa using this
  · split at h3
    · rename_i e0
      rw [e0]
      cases h3
      exact sts_nil
    · rename_i f e0
      rw [e0]
      exact sts_one (hc.T (ob s H Cl cl fp) h3 Z')
    · cases h3
theorem lc_ok {c : Cmp} (hc : Sound c) {X : Cx} {C : CC} {T : List (Addr × Str)} {W : WX} {lev : Nat} (o : OkX X C T W lev) {e : Expr} {d : DE} (h : cLc c C e = some d) (Z : Addr → Prop) : PE X e (tE (gX X T W Z) d) := by
  have h0 := h
  unfold cLc at h
  split at h
  · rename_i elt g scope pos
    obtain ⟨it, p, t, de, e1, e0, e2, h1, h2, h3, h4, h5, h6, h7⟩ := lc_parts hc o h0 Z
    subst e1
    obtain ⟨tg, iter, ifs, ia⟩ := g
    simp only at e2
    subst e2
    exact se_lc (o.calm e0) o.nd h1 h2 h3 h4 h5 h6 h7
  · cases h
end SE
set_option Elab.async false
set_option linter.all false
set_option maxRecDepth 100000
set_option maxHeartbeats 1000000
namespace SE
open PySem L2
abbrev DP := Env → Out (List Sl)
/-- what is to be stored: a value; a new object that stays the slot's own -/
def parP (m : Bool) (x : R) (r : Env) : Option (Sl × Env) := match x, m with
  | .nw d, true => some (.ow false false d, r)
  | x, _ => (esc r x).map fun (d, r2) => (.va false d, r2)
def pNil : DP := fun r => .ok [] r
def pCons (m : Bool) (a : DE) (t : DP) : DP := fun r => (a r).bind fun x r1 => match parP m x r1 with
  | some (s, r2) => (t r2).bind fun ss r3 => .ok (s :: ss) r3
  | none => .bad
def storeL : List Nat → List Sl → Env → Option Env
  | [], [], r => some r
  | i :: is, s :: ss, r => (store i s r).bind (storeL is ss)
  | _, _, _ => none
def sParP (is : List Nat) (t : DP) : DS := fun r => (t r).st fun ss r1 => nxt (storeL is ss r1)
/-- the pending ones, the new objects' places -/
def PI (K : PySem.W.Frag) (M : Addr → Prop) (H : Hp) : List Sl → List V → List Addr → Prop
  | [], vs, as => vs = [] ∧ as = []
  | .va false d :: ss, vs, as => ∃ v r, vs = v :: r ∧ Rp K M H d v ∧ PI K M H ss r as
  | .ow false false d :: ss, vs, as => ∃ a r t, vs = .ref a :: r ∧ as = a :: t ∧ RpO K M H false d a ∧ PI K M H ss r t
  | _, _, _ => False
abbrev ZL (Z : Addr → Prop) (as : List Addr) : Addr → Prop := fun b => Z b ∨ b ∈ as
section
variable {K : PySem.W.Frag} {T : List (Addr × Str)} {Z Z' : Addr → Prop} {r r1 r2 : Env} {σ : L2.St} {H H1 H2 : Hp}
theorem SimZ.less (S : SimZ K T Z' r σ H) (h : ∀ a, Z a → Z' a) : SimZ K T Z r σ H := by
  have k : Kept (MuZ Z' r σ) (MuZ Z r σ) H H := Kept.less fun a z => z.elim .inl fun z => .inr (h a z)
  exact ⟨S.len, fun i p d e => by
    obtain ⟨v, a, b⟩ := S.va i p d e
    exact ⟨v, a, Rp.kept k d v b⟩, fun i p l d e => by
    obtain ⟨v, a, b⟩ := S.ow i p l d e
    exact ⟨v, a, b.kept k fun _ z => z⟩, S.inj, fun a z => S.apart a (h a z), fun a z => S.zin a (h a z), S.tabs⟩
structure PendL (K : PySem.W.Frag) (T : List (Addr × Str)) (Z : Addr → Prop) (r : Env) (σ : L2.St) (H : Hp) (r' : Env) (H' : Hp) (ss : List Sl) (vs : List V) (as : List Addr) : Prop where
  ev : EvE K T Z r σ H r' H'
  sim : SimZ K T (ZL Z as) r' σ H'
  new : ∀ a ∈ as, H a = none
  nd : as.Nodup
  its : PI K (MuZ (ZL Z as) r' σ) H' ss vs as
theorem PI.kept {M M' : Addr → Prop} (k : Kept M M' H H1) : ∀ {ss : List Sl} {vs : List V} {as : List Addr}, PI K M H ss vs as → (∀ a ∈ as, ∀ o, H a = some o → H1 a = some o) → PI K M' H1 ss vs as
  | [], vs, as, h, _ => h
  | .va false d :: ss, vs, as, h, e => by
    obtain ⟨v, r, a, b, c⟩ := h
    exact ⟨v, r, a, Rp.kept k d v b, PI.kept k c e⟩
  | .ow false false d :: ss, vs, as, h, e => by
    obtain ⟨a, r, t, e1, e2, b, c⟩ := h
    subst e2
    exact ⟨a, r, t, e1, rfl, b.kept k (e a List.mem_cons_self), PI.kept k c fun x hx => e x (List.mem_cons_of_mem _ hx)⟩
  | .un :: ss, vs, as, h, _ => h.elim
  | .va true d :: ss, vs, as, h, _ => h.elim
  | .ow true l d :: ss, vs, as, h, _ => h.elim
  | .ow false true d :: ss, vs, as, h, _ => h.elim
theorem PI.len : ∀ {M : Addr → Prop} {ss : List Sl} {vs : List V} {as : List Addr}, PI K M H ss vs as → vs.length = ss.length
  | M, [], vs, as, h => by rw [h.1]; rfl
  | M, .va false d :: ss, vs, as, h => by
    obtain ⟨v, r, a, b, c⟩ := h
    rw [a, List.length_cons, List.length_cons, PI.len c]
  | M, .ow false false d :: ss, vs, as, h => by
    obtain ⟨a, r, t, e1, e2, b, c⟩ := h
    rw [e1, List.length_cons, List.length_cons, PI.len c]
  | M, .un :: ss, vs, as, h => h.elim
  | M, .va true d :: ss, vs, as, h => h.elim
  | M, .ow true l d :: ss, vs, as, h => h.elim
  | M, .ow false true d :: ss, vs, as, h => h.elim
end
def tP (g : G) (dp : DP) : TA := fun σ H Q => ∃ r Z, SimZ g.K g.T Z r σ H ∧ (dp r).aft (fun ss r' => ∀ vs H' as, PendL g.K g.T Z r σ H r' H' ss vs as → Q vs H') (exW { g with Z := Z } r σ H)
section
variable {X : Cx} {T : List (Addr × Str)} {W : WX} {Z : Addr → Prop} {e : Expr} {es : List Expr} {da : DE} {dt : DP} {m : Bool}
theorem sp_nil : PA X [] (tP (gX X T W Z) pNil) := PA.imp pa_nil fun σ H Q ⟨r, Z', S, q⟩ => q [] H [] ⟨EvE.refl S, S.less fun a z => z.elim id fun z => (by cases z), fun a h => (by cases h), List.nodup_nil, rfl, rfl⟩
theorem zl_nil (Z : Addr → Prop) : ZL Z [] = Z := funext fun b => propext ⟨fun z => z.elim id fun z => by (cases z), .inl⟩
theorem zl_cons (Z : Addr → Prop) (a : Addr) (as : List Addr) : ZL (fun b => Z b ∨ b = a) as = ZL Z (a :: as) := funext fun b => propext ⟨fun z => by
  rcases z with (z | z) | z
  · exact .inl z
  · exact .inr (by rw [z]; exact List.mem_cons_self)
  · exact .inr (List.mem_cons_of_mem _ z), fun z => by
  rcases z with z | z
  · exact .inl (.inl z)
  · rcases List.mem_cons.mp z with z | z
    · exact .inl (.inr z)
    · exact .inr z⟩
theorem sp_cons (hs : ∀ a p, e ≠ .Starred a p) (ha : ∀ Z, PE X e (tE (gX X T W Z) da)) (hr : PA X es (tP (gX X T W Z) dt)) : PA X (e :: es) (tP (gX X T W Z) (pCons m da dt)) := by
  have ha' : PE X e (fun σ H Q => ∃ Z', tE (gX X T W Z') da σ H Q) := PE.best fun σ H Q ⟨Z', h⟩ => ⟨_, ha Z', h⟩
  refine PA.imp (pa_cons ha' hr (star_cons hs)) fun σ H Q h => ?_
  obtain ⟨r, Z', S, q⟩ := h
  refine ⟨Z', r, S, aft_mono (aft_bind q) (fun x r1 q1 v H1 E1 R1 => ?_) fun _ _ z => z⟩
  have val : (∀ d r2, esc r1 x = some (d, r2) → ((dt r2).bind fun ss r3 => Out.ok (Sl.va false d :: ss) r3).aft (fun ss r' => ∀ vs H' as, PendL X.K T Z' r σ H r' H' ss vs as → Q vs H') (exW (gX X T W Z') r σ H)) → (esc r1 x ≠ none) → tP (gX X T W Z) dt σ H1 fun xs H2 => Q (v :: xs) H2 := fun hq hn => by
    cases he : esc r1 x with
    | none => exact absurd he hn
    | some dr =>
      obtain ⟨d, r2⟩ := dr
      obtain ⟨E2, rp⟩ := esc_ok E1.sim (R1.holds S E1) he
      have E12 := E1.trans S E2
      refine ⟨r2, Z', E2.sim, aft_mono (aft_bind (hq d r2 he)) (fun ss r3 q3 vs H' as P => ?_) fun _ _ z => exW.then S E12 z⟩
      refine q3 (v :: vs) H' as ⟨E12.trans S P.ev, P.sim, fun a ha => E12.dom a (P.new a ha), P.nd, v, vs, rfl, ?_, P.its⟩
      refine Rp.kept ⟨fun a o h t n => P.ev.ob a o h t fun z => n (.inl z), fun a z => ?_⟩ d v rp
      rcases z with z | z | z
      · exact .inl (.inl (P.ev.mu E2.sim a z))
      · exact .inl (.inr z)
      · exact .inr (P.new a z)
  unfold parP at q1
  cases x with
  | va d => exact val (fun d' r2 h => by cases m <;> (dsimp only at q1; rw [h] at q1; exact q1)) (fun h => nomatch h)
  | sl i => exact val (fun d' r2 h => by cases m <;> (dsimp only at q1; rw [h] at q1; exact q1)) (fun h => by cases m <;> (dsimp only at q1; rw [h] at q1; exact q1.elim))
  | nw d =>
    cases m with
    | false => exact val (fun d' r2 h => by dsimp only at q1; rw [h] at q1; exact q1) (fun h => nomatch h)
    | true =>
      dsimp only at q1
      obtain ⟨a, ev, na, Sz, o⟩ := R1
      subst ev
      refine ⟨r1, fun b => Z' b ∨ b = a, Sz, aft_mono (aft_bind q1) (fun ss r3 q3 vs H' as P => ?_) fun ee rr z => ?_⟩
      · have hsim := P.sim
        have hits := P.its
        rw [zl_cons] at hsim hits
        obtain ⟨u, hu⟩ := o.there
        have hna : a ∉ as := fun z => by rw [P.new a z] at hu; cases hu
        refine q3 _ H' (a :: as) ⟨?_, hsim, fun b hb => ?_, List.nodup_cons.mpr ⟨hna, P.nd⟩, a, vs, as, rfl, rfl, ?_, hits⟩
        · exact ⟨P.ev.sim.less fun b z => .inl z, fun b ob h t n => P.ev.ob b ob (E1.ob b ob h t n) t fun z => n (E1.mu S b z), fun b h => E1.dom b (P.ev.dom b h), fun i s h => by
            obtain ⟨s1, h1, e1⟩ := E1.slot i s h
            obtain ⟨s2, h2, e2⟩ := P.ev.slot i s1 h1
            exact ⟨s2, h2, e1.trans e2⟩⟩
        · rcases List.mem_cons.mp hb with hb | hb
          · rw [hb]; exact na
          · exact E1.dom b (P.new b hb)
        · refine o.kept ⟨fun b ob h t n => P.ev.ob b ob h t fun z => n (.inl z), fun b z => ?_⟩ fun w hw => P.ev.ob a w hw (fun ps z => by rw [z] at hw; exact o.noTbl ps hw) fun z => Sz.apart a (.inr rfl) z
          rw [← zl_cons] at z
          rcases z with z | z | z
          · exact .inl (.inl (P.ev.mu Sz b z))
          · exact .inl (.inr z)
          · exact .inr (P.new b z)
      · intro c dd H' E2 x
        refine z c dd H' ⟨E2.sim.less fun b z => .inl z, fun b ob h t n => E2.ob b ob (E1.ob b ob h t n) t fun z => n (E1.mu S b z), fun b h => E1.dom b (E2.dom b h), fun i s h => ?_⟩ x
        obtain ⟨s1, h1, e1⟩ := E1.slot i s h
        obtain ⟨s2, h2, e2⟩ := E2.slot i s1 h1
        exact ⟨s2, h2, e1.trans e2⟩
end
/-- the values' places -/
def setL : List Nat → List V → L2.St → L2.St
  | i :: is, v :: vs, σ => setL is vs (σ.set i (some v))
  | _, _, σ => σ
section
variable {K : PySem.W.Frag} {T : List (Addr × Str)} {Z : Addr → Prop}
theorem storeL_ok {H0 H : Hp} : ∀ {is : List Nat} {ss : List Sl} {vs : List V} {as : List Addr} {r r' : Env} {σ : L2.St}, SimZ K T (ZL Z as) r σ H → PI K (MuZ (ZL Z as) r σ) H ss vs as → as.Nodup → (∀ a ∈ as, ¬ Z a ∧ H0 a = none) → storeL is ss r = some r' →
    SimZ K T Z r' (setL is vs σ) H ∧ (∀ p b, MuP p r' (setL is vs σ) b → MuP p r σ b ∨ (p = false ∧ H0 b = none)) ∧ (∀ (j : Nat) (t : Sl), r[j]? = some t → ∃ s', r'[j]? = some s' ∧ SlS t s' ∧ (stays t = true → (setL is vs σ)[j]? = σ[j]?))
  | [], [], vs, as, r, r', σ, S, P, nd, hz, e => by
    obtain ⟨e1, e2⟩ := P
    subst e1 e2
    cases e
    rw [zl_nil] at S
    exact ⟨S, fun p b m => .inl m, fun j t h => ⟨t, h, (SlE.refl t).s, fun _ => rfl⟩⟩
  | [], s :: ss, vs, as, r, r', σ, S, P, nd, hz, e => by cases e
  | i :: is, [], vs, as, r, r', σ, S, P, nd, hz, e => by cases e
  | i :: is, .va false d :: ss, vs, as, r, r', σ, S, P, nd, hz, e => by
    obtain ⟨v, t, e1, rp, P⟩ := P
    subst e1
    unfold storeL at e
    obtain ⟨r1, h1, h2⟩ := bind_some2 e
    have F := store_va S rp h1
    have P1 := P.kept F.kept fun a _ o h => h
    obtain ⟨a1, a2, a3⟩ := storeL_ok F.sim P1 nd hz h2
    refine ⟨a1, fun p b m => ?_, fun j t hj => ?_⟩
    · rcases a2 p b m with m | m
      · rcases F.mu p b m with m | ⟨m1, m2⟩
        · exact .inl m
        · exfalso
          obtain ⟨i', l', d', q1, q2⟩ := m
          obtain ⟨a, b1, b2⟩ := F.sim.ow i' p l' d' q1
          rw [q2] at b1
          cases b1
          obtain ⟨o, ho⟩ := b2.there
          rw [m2] at ho
          cases ho
      · exact .inr m
    · obtain ⟨s1, c1, c2, c3⟩ := F.slot j t hj
      obtain ⟨s2, c4, c5, c6⟩ := a3 j s1 c1
      exact ⟨s2, c4, c2.trans c5, fun z => (c6 (c2.stays z)).trans (c3 z)⟩
  | i :: is, .ow false false d :: ss, vs, as, r, r', σ, S, P, nd, hz, e => by
    obtain ⟨a, vs', t, e1, e2, ro, P⟩ := P
    subst e1 e2
    unfold storeL at e
    obtain ⟨r1, h1, h2⟩ := bind_some2 e
    have hsw : ZL Z (a :: t) = fun b => ZL Z t b ∨ b = a := funext fun b => propext ⟨fun z => by
      rcases z with z | z
      · exact .inl (.inl z)
      · rcases List.mem_cons.mp z with z | z
        · exact .inr z
        · exact .inl (.inr z), fun z => by
      rcases z with (z | z) | z
      · exact .inl z
      · exact .inr (List.mem_cons_of_mem _ z)
      · exact .inr (by rw [z]; exact List.mem_cons_self)⟩
    rw [hsw] at S ro P
    obtain ⟨n1, n2⟩ := List.nodup_cons.mp nd
    obtain ⟨z1, z2⟩ := hz a List.mem_cons_self
    obtain ⟨b1, b2, b3⟩ := store_ow (H0 := H0) S ro (fun z => z.elim z1 n1) z2 h1
    have k : Kept (MuZ (fun b => ZL Z t b ∨ b = a) r σ) (MuZ (ZL Z t) r1 (σ.set i (some (.ref a)))) H H := Kept.less fun b z => by
      rcases z with z | z
      · obtain ⟨p, m⟩ := z.p
        have := b2 p b m
        obtain ⟨er, hi, s0, h0, n⟩ := store_cases h1
        subst er
        obtain ⟨j, l', d', q1, q2⟩ := m
        rcases getSet q1 with ⟨e1, e2, _⟩ | ⟨ne, q1⟩
        · subst e1
          have hs : i < σ.length := by rw [← S.len]; exact hi
          rw [List.getElem?_set_self hs] at q2
          have : V.ref a = V.ref b := by simpa using q2
          cases this
          exact .inr (.inr rfl)
        · rw [List.getElem?_set_ne ne] at q2
          exact .inl ⟨j, p, l', d', q1, q2⟩
      · exact .inr (.inl z)
    have P1 := P.kept k fun a _ o h => h
    obtain ⟨a1, a2, a3⟩ := storeL_ok b1 P1 n2 (fun x hx => hz x (List.mem_cons_of_mem _ hx)) h2
    refine ⟨a1, fun p b m => ?_, fun j t hj => ?_⟩
    · rcases a2 p b m with m | m
      · exact b2 p b m
      · exact .inr m
    · obtain ⟨s1, c1, c2, c3⟩ := b3 j t hj
      obtain ⟨s2, c4, c5, c6⟩ := a3 j s1 c1
      exact ⟨s2, c4, c2.trans c5, fun z => (c6 (c2.stays z)).trans (c3 z)⟩
  | i :: is, .un :: ss, vs, as, r, r', σ, S, P, nd, hz, e => P.elim
  | i :: is, .va true d :: ss, vs, as, r, r', σ, S, P, nd, hz, e => P.elim
  | i :: is, .ow true l d :: ss, vs, as, r, r', σ, S, P, nd, hz, e => P.elim
  | i :: is, .ow false true d :: ss, vs, as, r, r', σ, S, P, nd, hz, e => P.elim
theorem storeL_len : ∀ {is : List Nat} {ss : List Sl} {r r' : Env}, storeL is ss r = some r' → ss.length = is.length
  | [], [], r, r', h => rfl
  | [], _ :: _, r, r', h => by cases h
  | _ :: _, [], r, r', h => by cases h
  | i :: is, s :: ss, r, r', h => by
    unfold storeL at h
    obtain ⟨r1, h1, h2⟩ := bind_some2 h
    rw [List.length_cons, List.length_cons, storeL_len h2]
end
section
variable {X : Cx} {T : List (Addr × Str)} {W : WX} {Z : Addr → Prop} {st : Stmt} {es : List Expr} {dp : DP}
theorem tP_mono {g : G} {σ : L2.St} {H : Hp} {Q Q' : List V → Hp → Prop} (h : tP g dp σ H Q) (k : ∀ vs H, Q vs H → Q' vs H) : tP g dp σ H Q' := by
  obtain ⟨r, Z, S, q⟩ := h
  exact ⟨r, Z, S, aft_mono q (fun ss r' q vs H' as P => k vs H' (q vs H' as P)) fun _ _ z => z⟩
/-- the statement: its rule's reading is told by h -/
theorem ss_parP {is : List Nat} (h : PS X st (fun D σ H => tP (gX X T W Z) dp σ H fun vs H1 => vs.length = is.length ∧ D.nx (setL is vs σ) H1)) : PS X st (tS (gX X T W Z) (sParP is dp)) := by
  refine PS.imp h fun D σ H q => ?_
  obtain ⟨r, S, q⟩ := q
  refine ⟨r, Z, S, aft_mono (sAft_st S q) (fun ss r1 q1 vs H1 as P => ?_) fun _ _ z => z⟩
  cases h2 : storeL is ss r1 with
  | none => rw [h2] at q1; exact q1.elim
  | some r3 =>
    rw [h2] at q1
    obtain ⟨b1, b2, b3⟩ := storeL_ok (H0 := H) P.sim P.its P.nd (fun a ha => ⟨fun z => (S.zin a z).1 (P.new a ha), P.new a ha⟩) h2
    have F := P.ev.s S
    refine ⟨by rw [P.its.len, storeL_len h2], q1 _ H1 ⟨b1, F.ob, F.dom, fun p b m => ?_, fun j t hj => ?_⟩⟩
    · rcases b2 p b m with m | m
      · exact F.mu p b m
      · exact .inr m
    · obtain ⟨s1, c1, c2, c3⟩ := F.slot j t hj
      obtain ⟨s2, c4, c5, c6⟩ := b3 j s1 c1
      exact ⟨s2, c4, c2.trans c5, fun z => (c6 (c2.stays z)).trans (c3 z)⟩
end
end SE
set_option Elab.async false
set_option linter.all false
set_option maxRecDepth 100000
set_option maxHeartbeats 1000000
namespace SE
open PySem L2 PyProof.Rows
section
variable {X : Cx} {a b c e : Expr} {ta tb tc te : TE} {pos : Pos}
def tChain3 (r r' r'' : R2) (ta tb tc te : TE) : TE := fun σ H Q => ta σ H fun x H1 => tb σ H1 fun y H2 => r x y H2 fun z H3 => ∃ k, z = .bl k ∧
  (if k = true then tc σ H3 fun w' H4 => r' y w' H4 fun z' H5 => ∃ k', z' = .bl k' ∧ (if k' = true then te σ H5 fun u' H6 => r'' w' u' H6 Q else Q (.bl false) H5) else Q (.bl false) H3)
theorem pe_chain3 {op op' op'' : CmpOp} {r r' r'' : R2} (ho : OpR X (compareOp op) r) (ho' : OpR X (compareOp op') r') (ho'' : OpR X (compareOp op'') r'') (ha : PE X a ta) (hb : PE X b tb) (hc : PE X c tc) (he : PE X e te)
    (hm : lastMarks [op, op', op''] [b, c, e] = false) : PE X (.Compare a [op, op', op''] [b, c, e] pos) (tChain3 r r' r'' ta tb tc te) := by
  refine ⟨fun pins s σ H Q I h => ?_⟩
  refine PyProof.Rows.Compare_chain (thn (ha.run pins s σ H _ I h) fun v s1 ⟨x, H1, I1, r1, q1⟩ => PyProof.Rows.chain_link (thn (hb.run pins s1 σ H1 _ I1 q1) fun u s2 ⟨y, H2, I2, r2, q2⟩ =>
    thn (ho pins s2 σ H2 x y v u _ I2 r1 r2 q2) fun d s3 ⟨z, H3, I3, r3, k, e, q3⟩ => ?_)) hm
  subst e
  cases r3
  refine wpAny_truthy_bool ?_
  cases k with
  | false => exact ite_ff ⟨.bl false, H3, I3, rfl, q3⟩
  | true =>
    refine ite_tt (PyProof.Rows.chain_link (thn (hc.run pins s3 σ H3 _ I3 q3) fun w' s4 ⟨z', H4, I4, r4, q4⟩ => thn (ho' pins s4 σ H4 y z' u w' _ I4 r2 r4 q4) fun d s5 ⟨z5, H5, I5, r5, k, e, q5⟩ => ?_))
    subst e
    cases r5
    refine wpAny_truthy_bool ?_
    cases k with
    | false => exact ite_ff ⟨.bl false, H5, I5, rfl, q5⟩
    | true => exact ite_tt (PyProof.Rows.chain_last (thn (he.run pins s5 σ H5 _ I5 q5) fun w6 s6 ⟨z6, H6, I6, r6, q6⟩ => ho'' pins s6 σ H6 z' z6 w' w6 Q I6 r4 r6 q6))
theorem pt_chain3 {op op' op'' : CmpOp} {r r' r'' : R2} (ho : OpR X (compareOp op) r) (ho' : OpR X (compareOp op') r') (ho'' : OpR X (compareOp op'') r'') (ha : PE X a ta) (hb : PE X b tb) (hc : PE X c tc) (he : PE X e te)
    (hm : lastMarks [op, op', op''] [b, c, e] = false) : PT X (.Compare a [op, op', op''] [b, c, e] pos) (tTest (tChain3 r r' r'' ta tb tc te)) := by
  refine ⟨fun pins s σ H Q I h => ?_⟩
  refine PyProof.Rows.isTrue_chain (thn (ha.run pins s σ H _ I h) fun v s1 ⟨x, H1, I1, r1, q1⟩ => PyProof.Rows.test_link (thn (hb.run pins s1 σ H1 _ I1 q1) fun u s2 ⟨y, H2, I2, r2, q2⟩ =>
    thn (ho pins s2 σ H2 x y v u _ I2 r1 r2 q2) fun d s3 ⟨z, H3, I3, r3, k, e, q3⟩ => ?_)) hm
  subst e
  cases r3
  refine wpAny_truthy_bool ?_
  cases k with
  | false =>
    obtain ⟨k', e', q'⟩ := q3
    cases e'
    exact ite_ff ⟨H3, I3, q'⟩
  | true =>
    refine ite_tt (PyProof.Rows.test_link (thn (hc.run pins s3 σ H3 _ I3 q3) fun w' s4 ⟨z', H4, I4, r4, q4⟩ => thn (ho' pins s4 σ H4 y z' u w' _ I4 r2 r4 q4) fun d s5 ⟨z5, H5, I5, r5, k, e, q5⟩ => ?_))
    subst e
    cases r5
    refine wpAny_truthy_bool ?_
    cases k with
    | false =>
      obtain ⟨k', e', q'⟩ := q5
      cases e'
      exact ite_ff ⟨H5, I5, q'⟩
    | true =>
      refine ite_tt (PyProof.Rows.test_last (thn (he.run pins s5 σ H5 _ I5 q5) fun w6 s6 ⟨z6, H6, I6, r6, q6⟩ => thn (ho'' pins s6 σ H6 z' z6 w' w6 _ I6 r4 r6 q6) fun d' s7 ⟨z7, H7, I7, r7, k2, e2, q7⟩ => ?_))
      subst e2
      cases r7
      exact wpAny_truthy_bool ⟨H7, I7, q7⟩
end
/-- a op b op' c op'' e -/
def dChain3 (f g h : D → D → Option R) (a b c e : DE) : DE := fun r => (a r).bind fun x r1 => (b r1).bind fun y r2 =>
  (opt ((der r2 x).bind fun u => (der r2 y).bind fun v => (f u v).bind fun z => (der r2 z).bind asB) r2).bind fun k r3 =>
    if k = true then (c r3).bind fun z r4 => (opt ((der r4 y).bind fun v => (der r4 z).bind fun w => (g v w).bind fun z => (der r4 z).bind asB) r4).bind fun k' r5 =>
      if k' = true then (e r5).bind fun u r6 => opt ((der r6 z).bind fun w => (der r6 u).bind fun u => h w u) r6 else .ok (.va (.bool false)) r5
    else .ok (.va (.bool false)) r3
section
variable {X : Cx} {T : List (Addr × Str)} {W : WX} {Z : Addr → Prop} {a b c e : Expr} {da db dc de : DE} {pos : Pos}
theorem se_chain3 {op op' op'' : CmpOp} {f f' f'' : D → D → Option R} (ho : OpR X (compareOp op) (rD X.K f)) (ho' : OpR X (compareOp op') (rD X.K f')) (ho'' : OpR X (compareOp op'') (rD X.K f'')) (ha : PE X a (tE (gX X T W Z) da)) (hb : PE X b (tE (gX X T W Z) db)) (hc : PE X c (tE (gX X T W Z) dc)) (he : PE X e (tE (gX X T W Z) de))
    (hm : lastMarks [op, op', op''] [b, c, e] = false) : PE X (.Compare a [op, op', op''] [b, c, e] pos) (tE (gX X T W Z) (dChain3 f f' f'' da db dc de)) := by
  refine PE.imp (pe_chain3 ho ho' ho'' ha hb hc he hm) fun σ H Q h => ?_
  obtain ⟨r, S, q⟩ := h
  refine ⟨r, S, aft_mono (aft_bind q) (fun x r1 q1 v H1 E1 R1 => ?_) fun _ _ z => z⟩
  refine ⟨r1, E1.sim, aft_mono (aft_bind q1) (fun y r2 q2 w H2 E2 R2 => ?_) fun _ _ z => exW.then S E1 z⟩
  have E12 := E1.trans S E2
  obtain ⟨k, hk, q3⟩ := aft_opt (aft_bind q2)
  obtain ⟨u, hu, hk⟩ := bind_some2 hk
  obtain ⟨u2, hv, hk⟩ := bind_some2 hk
  obtain ⟨z, hz, hk⟩ := bind_some2 hk
  have hx2 := (R1.holds S E1).kept E1.sim E2
  have hy2 := R2.holds E1.sim E2
  refine ⟨MuZ Z r2 σ, u, u2, z, E2.sim.min, hx2.der E2.sim hu, hy2.der E2.sim hv, hz, fun zv H' ex nw => ?_⟩
  obtain ⟨E3, R3⟩ := NewR.res S E12 ex nw
  obtain ⟨d, hd, hb⟩ := bind_some2 hk
  refine ⟨k, rpI_bool ((R3.holds S E3).der E3.sim hd) hb, ?_⟩
  cases k with
  | false =>
    rw [if_neg Bool.false_ne_true] at q3 ⊢
    exact q3 _ H' E3 (by simp only [ResR, Rp])
  | true =>
    rw [if_pos rfl] at q3 ⊢
    refine ⟨r2, E3.sim, aft_mono (aft_bind q3) (fun y2 r4 q4 w4 H4 E4 R4 => ?_) fun _ _ z => exW.then S E3 z⟩
    have E34 := E3.trans S E4
    obtain ⟨k2, hk2, q5⟩ := aft_opt (aft_bind q4)
    obtain ⟨u4, hu4, hk2⟩ := bind_some2 hk2
    obtain ⟨u5, hu5, hk2⟩ := bind_some2 hk2
    obtain ⟨z4, hz4, hk2⟩ := bind_some2 hk2
    have hy3 := hy2.kept E2.sim (EvE.ext E2.sim ex)
    have hw4 := R4.holds E3.sim E4
    refine ⟨MuZ Z r4 σ, u4, u5, z4, E4.sim.min, (hy3.kept E3.sim E4).der E4.sim hu4, hw4.der E4.sim hu5, hz4, fun zv5 H5 ex5 nw5 => ?_⟩
    obtain ⟨E5, R5⟩ := NewR.res S E34 ex5 nw5
    obtain ⟨d2, hd2, hb2⟩ := bind_some2 hk2
    refine ⟨k2, rpI_bool ((R5.holds S E5).der E5.sim hd2) hb2, ?_⟩
    cases k2 with
    | false =>
      rw [if_neg Bool.false_ne_true] at q5 ⊢
      exact q5 _ H5 E5 (by simp only [ResR, Rp])
    | true =>
      rw [if_pos rfl] at q5 ⊢
      refine ⟨r4, E5.sim, aft_mono (aft_bind q5) (fun y6 r6 q6 w6 H6 E6 R6 => ?_) fun _ _ z => exW.then S E5 z⟩
      obtain ⟨z7, hz7, q7⟩ := aft_opt q6
      obtain ⟨u7, hu7, hz7⟩ := bind_some2 hz7
      obtain ⟨u8, hu8, hz7⟩ := bind_some2 hz7
      have hw5 := hw4.kept E4.sim (EvE.ext E4.sim ex5)
      refine ⟨MuZ Z r6 σ, u7, u8, z7, E6.sim.min, (hw5.kept E5.sim E6).der E6.sim hu7, (R6.holds E5.sim E6).der E6.sim hu8, hz7, fun zv8 H8 ex8 nw8 => ?_⟩
      obtain ⟨E8, R8⟩ := NewR.res S (E5.trans S E6) ex8 nw8
      exact q7 zv8 H8 E8 R8
theorem st_chain3 {op op' op'' : CmpOp} {f f' f'' : D → D → Option R} (ho : OpR X (compareOp op) (rD X.K f)) (ho' : OpR X (compareOp op') (rD X.K f')) (ho'' : OpR X (compareOp op'') (rD X.K f'')) (ha : PE X a (tE (gX X T W Z) da)) (hb : PE X b (tE (gX X T W Z) db)) (hc : PE X c (tE (gX X T W Z) dc)) (he : PE X e (tE (gX X T W Z) de))
    (hm : lastMarks [op, op', op''] [b, c, e] = false) : PT X (.Compare a [op, op', op''] [b, c, e] pos) (tT (gX X T W Z) (tB (dChain3 f f' f'' da db dc de))) := by
  refine PT.imp (pt_chain3 ho ho' ho'' ha hb hc he hm) fun σ H Q h => ?_
  obtain ⟨r, S, q⟩ := h
  refine ⟨r, S, aft_mono (aft_bind (aft_bind q)) (fun x r1 q1 v H1 E1 R1 => ?_) fun _ _ z => z⟩
  refine ⟨r1, E1.sim, aft_mono (aft_bind q1) (fun y r2 q2 w H2 E2 R2 => ?_) fun _ _ z => exW.then S E1 z⟩
  have E12 := E1.trans S E2
  obtain ⟨k, hk, q3⟩ := aft_opt (aft_bind q2)
  obtain ⟨u, hu, hk⟩ := bind_some2 hk
  obtain ⟨u2, hv, hk⟩ := bind_some2 hk
  obtain ⟨z, hz, hk⟩ := bind_some2 hk
  have hx2 := (R1.holds S E1).kept E1.sim E2
  have hy2 := R2.holds E1.sim E2
  refine ⟨MuZ Z r2 σ, u, u2, z, E2.sim.min, hx2.der E2.sim hu, hy2.der E2.sim hv, hz, fun zv H' ex nw => ?_⟩
  obtain ⟨E3, R3⟩ := NewR.res S E12 ex nw
  obtain ⟨d, hd, hb⟩ := bind_some2 hk
  refine ⟨k, rpI_bool ((R3.holds S E3).der E3.sim hd) hb, ?_⟩
  cases k with
  | false =>
    rw [if_neg Bool.false_ne_true] at q3 ⊢
    exact ⟨false, rfl, q3 H' E3⟩
  | true =>
    rw [if_pos rfl] at q3 ⊢
    refine ⟨r2, E3.sim, aft_mono (aft_bind q3) (fun y2 r4 q4 w4 H4 E4 R4 => ?_) fun _ _ z => exW.then S E3 z⟩
    have E34 := E3.trans S E4
    obtain ⟨k2, hk2, q5⟩ := aft_opt (aft_bind q4)
    obtain ⟨u4, hu4, hk2⟩ := bind_some2 hk2
    obtain ⟨u5, hu5, hk2⟩ := bind_some2 hk2
    obtain ⟨z4, hz4, hk2⟩ := bind_some2 hk2
    have hy3 := hy2.kept E2.sim (EvE.ext E2.sim ex)
    have hw4 := R4.holds E3.sim E4
    refine ⟨MuZ Z r4 σ, u4, u5, z4, E4.sim.min, (hy3.kept E3.sim E4).der E4.sim hu4, hw4.der E4.sim hu5, hz4, fun zv5 H5 ex5 nw5 => ?_⟩
    obtain ⟨E5, R5⟩ := NewR.res S E34 ex5 nw5
    obtain ⟨d2, hd2, hb2⟩ := bind_some2 hk2
    refine ⟨k2, rpI_bool ((R5.holds S E5).der E5.sim hd2) hb2, ?_⟩
    cases k2 with
    | false =>
      rw [if_neg Bool.false_ne_true] at q5 ⊢
      exact ⟨false, rfl, q5 H5 E5⟩
    | true =>
      rw [if_pos rfl] at q5 ⊢
      refine ⟨r4, E5.sim, aft_mono (aft_bind q5) (fun y6 r6 q6 w6 H6 E6 R6 => ?_) fun _ _ z => exW.then S E5 z⟩
      obtain ⟨z7, hz7, q7⟩ := aft_opt q6
      obtain ⟨u7, hu7, hz7⟩ := bind_some2 hz7
      obtain ⟨u8, hu8, hz7⟩ := bind_some2 hz7
      have hw5 := hw4.kept E4.sim (EvE.ext E4.sim ex5)
      refine ⟨MuZ Z r6 σ, u7, u8, z7, E6.sim.min, (hw5.kept E5.sim E6).der E6.sim hu7, (R6.holds E5.sim E6).der E6.sim hu8, hz7, fun zv8 H8 ex8 nw8 => ?_⟩
      obtain ⟨E8, R8⟩ := NewR.res S (E5.trans S E6) ex8 nw8
      obtain ⟨k9, hk9, q9⟩ := aft_opt q7
      obtain ⟨d9, hd9, hb9⟩ := bind_some2 hk9
      exact ⟨k9, rpI_bool ((R8.holds S E8).der E8.sim hd9) hb9, q9 H8 E8⟩
end
end SE
set_option Elab.async false
set_option linter.all false
set_option maxRecDepth 100000
set_option maxHeartbeats 1000000
namespace SE
open PySem L2
section
variable {X : Cx} {T : List (Addr × Str)} {W : WX} {Z : Addr → Prop} {e : Expr} {es : List Expr} {da : DE} {dA : DA} {p : Pos}
theorem sa_star (ha : PE X e (tE (gX X T W Z) da)) (hr : PA X es (tA (gX X T W Z) dA)) : PA X (.Starred e p :: es) (tA (gX X T W Z) (aStar da dA)) := by
  refine PA.imp (StX.pa_star ha hr rfl) fun σ H Q h => ?_
  obtain ⟨r, S, q⟩ := h
  refine ⟨r, S, aft_mono (aft_bind q) (fun x r1 q1 v H1 E1 R1 => ?_) fun _ _ z => z⟩
  cases hi : (der r1 x).bind items with
  | none => rw [hi] at q1; exact q1.elim
  | some ds =>
    rw [hi] at q1
    obtain ⟨d, hd, hit⟩ := bind_some2 hi
    obtain ⟨a, vs, e1, l1, rp⟩ := rpi_items ((R1.holds S E1).der E1.sim hd) hit
    subst e1
    refine ⟨a, vs, rfl, l1.symm, r1, E1.sim, aft_mono (aft_bind q1) (fun es r2 q2 ws H2 E2 R2 => ?_) fun _ _ z => exW.then S E1 z⟩
    exact q2 _ H2 (E1.trans S E2) ((RpL.kept (E2.kept E1.sim) ds vs rp).append R2)
end
theorem swapped_none {ts es : List Expr} {k k2 : Nat} {p p2 : Pos} {env : PySem.Env} (h : es.all (foldedForSure 8) = true ∨ (es.any fun | .Starred .. => true | _ => false) = true ∨ (ts.length == 2 || ts.length == 3) = false) :
    swappedStores [.Tuple ts k p] (.Tuple es k2 p2) env = pure none := by
  unfold swappedStores
  simp only [pure_bind]
  split
  · rfl
  · rename_i c1
    split
    · rfl
    · rename_i c2
      split
      · rfl
      · rcases h with h | h | h
        · rw [if_pos h]
        · exact absurd h c2
        · exact absurd (by rw [h]; rfl) c1
def isStar : Expr → Bool
  | .Starred _ _ => true
  | _ => false
theorem isStar_eq (es : List Expr) : (es.any fun | .Starred .. => true | _ => false) = es.any isStar := by
  congr 1
theorem fm2 {α β : Type} {f : α → Option β} {p q : α} {x y : β} (h1 : f p = some x) (h2 : f q = some y) : List.filterMap f [p, q] = [x, y] := by simp [List.filterMap, h1, h2]
theorem fm3 {α β : Type} {f : α → Option β} {p q r : α} {x y z : β} (h1 : f p = some x) (h2 : f q = some y) (h3 : f r = some z) : List.filterMap f [p, q, r] = [x, y, z] := by simp [List.filterMap, h1, h2, h3]
theorem swapped_two {x y : Str} {a b : Expr} {px py pt p2 : Pos} {kt k2 : Nat} {env : PySem.Env} (hk : env.blockKind = .function) (hx : env.kindOf x = some .local) (hy : env.kindOf y = some .local) (hp : (py.line == px.line) = true) (hn : x ≠ y)
    (hs : [a, b].any isStar = false) (hf : [a, b].all (foldedForSure 8) = false) (hc : [a, b].all (constantsAlone 8) = false) : swappedStores [.Tuple [.Name x px, .Name y py] kt pt] (.Tuple [a, b] k2 p2) env = pure (some [x, y]) := by
  have e0 : ([x, y].eraseDups.length != [x, y].length) = false := by
    have : (y == x) = false := by simp [Ne.symm hn]
    simp [List.eraseDups_cons, List.filter, this]
  have hxx : (env.kindOf x == some NameKind.local && px.line == px.line) = true := by rw [hx]; simp
  have hyy : (env.kindOf y == some NameKind.local && py.line == px.line) = true := by rw [hy, hp]; rfl
  unfold swappedStores
  simp only [pure_bind, hk]
  split
  · rename_i c
    simp at c
  · split
    · rename_i c
      exact absurd (hs.symm.trans c) Bool.false_ne_true
    · rw [fm2 (x := x) (y := y) ?h1 ?h2]
      rotate_left
      · exact if_pos hxx
      · exact if_pos hyy
      rw [if_neg (by rw [e0]; simp), if_neg (by rw [hf]; exact Bool.false_ne_true), if_neg (by rw [hc]; exact Bool.false_ne_true)]
theorem swapped_three {x y z : Str} {a b c : Expr} {px py pz pt p2 : Pos} {kt k2 : Nat} {env : PySem.Env} (hk : env.blockKind = .function) (hx : env.kindOf x = some .local) (hy : env.kindOf y = some .local) (hz : env.kindOf z = some .local) (hp : (py.line == px.line) = true) (hp2 : (pz.line == px.line) = true)
    (hn : x ≠ y) (hn2 : x ≠ z) (hn3 : y ≠ z)
    (hs : [a, b, c].any isStar = false) (hf : [a, b, c].all (foldedForSure 8) = false) (hc : [a, b, c].all (constantsAlone 8) = false) : swappedStores [.Tuple [.Name x px, .Name y py, .Name z pz] kt pt] (.Tuple [a, b, c] k2 p2) env = pure (some [x, y, z]) := by
  have e0 : ([x, y, z].eraseDups.length != [x, y, z].length) = false := by
    have h1 : (y == x) = false := by simp [Ne.symm hn]
    have h2 : (z == x) = false := by simp [Ne.symm hn2]
    have h3 : (z == y) = false := by simp [Ne.symm hn3]
    simp [List.eraseDups_cons, List.filter, h1, h2, h3]
  rw [← isStar_eq] at hs
  have hxx : (env.kindOf x == some NameKind.local && px.line == px.line) = true := by rw [hx]; simp
  have hyy : (env.kindOf y == some NameKind.local && py.line == px.line) = true := by rw [hy, hp]; rfl
  have hzz : (env.kindOf z == some NameKind.local && pz.line == px.line) = true := by rw [hz, hp2]; rfl
  unfold swappedStores
  simp only [pure_bind, hk]
  split
  · rename_i c
    simp at c
  · split
    · rename_i c
      exact absurd (hs.symm.trans c) Bool.false_ne_true
    · rw [fm3 (x := x) (y := y) (z := z) ?h1 ?h2 ?h3]
      rotate_left
      · exact if_pos hxx
      · exact if_pos hyy
      · exact if_pos hzz
      rw [if_neg (by rw [e0]; simp), if_neg (by rw [hf]; exact Bool.false_ne_true), if_neg (by rw [hc]; exact Bool.false_ne_true)]
section
variable {X : Cx} {T : List (Addr × Str)} {W : WX} {Z : Addr → Prop} {a b c : Expr} {da db dc : DE} {m1 m2 m3 : Bool} {i j l : Nat} {x y z : Str} {px py pz pt p2 pos : Pos} {kt k2 : Nat}
theorem ss_par2 (hcm : X.calm = true) (hN : X.N.Nodup) (hi : X.N[i]? = some x) (hj : X.N[j]? = some y) (hx : X.env.scope.names.lookup x = some .local) (hy : X.env.scope.names.lookup y = some .local) (hk : X.env.blockKind = .function) (hp : (py.line == px.line) = true) (hn : x ≠ y)
    (hs : [a, b].any isStar = false) (hf : [a, b].all (foldedForSure 8) = false) (hc : [a, b].all (constantsAlone 8) = false) (ha : ∀ Z, PE X a (tE (gX X T W Z) da)) (hb : ∀ Z, PE X b (tE (gX X T W Z) db)) :
    PS X (.Assign [.Tuple [.Name x px, .Name y py] kt pt] (.Tuple [a, b] k2 p2) pos) (tS (gX X T W Z) (sParP [i, j] (pCons m1 da (pCons m2 db pNil)))) := by
  simp only [List.any_cons, List.any_nil, Bool.or_false, Bool.or_eq_false_iff] at hs
  have n1 : ∀ a' p, a ≠ .Starred a' p := fun a' p e => by rw [e] at hs; exact Bool.noConfusion (show true = false from hs.1)
  have n2 : ∀ a' p, b ≠ .Starred a' p := fun a' p e => by rw [e] at hs; exact Bool.noConfusion (show true = false from hs.2)
  have hij : i ≠ j := fun e => by subst e; rw [hi] at hj; exact hn (Option.some.inj hj)
  have hA : PA X [a, b] (tP (gX X T W Z) (pCons m1 da (pCons m2 db pNil))) := sp_cons n1 ha (sp_cons n2 hb sp_nil)
  refine ss_parP (PS.imp (ps_par hcm hN hi hj hij hx hy hA (swapped_two hk hx hy hp hn (by simp [hs.1, hs.2]) hf hc) rfl) fun D σ H q => tP_mono q fun vs H1 ⟨hl, hq⟩ => ?_)
  match vs, hl with
  | [v, w], _ => exact ⟨v, w, rfl, hq⟩
theorem ss_par3 (hcm : X.calm = true) (hN : X.N.Nodup) (hi : X.N[i]? = some x) (hj : X.N[j]? = some y) (hl : X.N[l]? = some z) (hx : X.env.scope.names.lookup x = some .local) (hy : X.env.scope.names.lookup y = some .local) (hz : X.env.scope.names.lookup z = some .local) (hk : X.env.blockKind = .function)
    (hp : (py.line == px.line) = true) (hp2 : (pz.line == px.line) = true) (hn : x ≠ y) (hn2 : x ≠ z) (hn3 : y ≠ z)
    (hs : [a, b, c].any isStar = false) (hf : [a, b, c].all (foldedForSure 8) = false) (hc : [a, b, c].all (constantsAlone 8) = false) (ha : ∀ Z, PE X a (tE (gX X T W Z) da)) (hb : ∀ Z, PE X b (tE (gX X T W Z) db)) (hcc : ∀ Z, PE X c (tE (gX X T W Z) dc)) :
    PS X (.Assign [.Tuple [.Name x px, .Name y py, .Name z pz] kt pt] (.Tuple [a, b, c] k2 p2) pos) (tS (gX X T W Z) (sParP [i, j, l] (pCons m1 da (pCons m2 db (pCons m3 dc pNil))))) := by
  simp only [List.any_cons, List.any_nil, Bool.or_false, Bool.or_eq_false_iff] at hs
  have n1 : ∀ a' p, a ≠ .Starred a' p := fun a' p e => by rw [e] at hs; exact Bool.noConfusion (show true = false from hs.1)
  have n2 : ∀ a' p, b ≠ .Starred a' p := fun a' p e => by rw [e] at hs; exact Bool.noConfusion (show true = false from hs.2.1)
  have n3 : ∀ a' p, c ≠ .Starred a' p := fun a' p e => by rw [e] at hs; exact Bool.noConfusion (show true = false from hs.2.2)
  have hij : i ≠ j := fun e => by subst e; rw [hi] at hj; exact hn (Option.some.inj hj)
  have hil : i ≠ l := fun e => by subst e; rw [hi] at hl; exact hn2 (Option.some.inj hl)
  have hjl : j ≠ l := fun e => by subst e; rw [hj] at hl; exact hn3 (Option.some.inj hl)
  have hA : PA X [a, b, c] (tP (gX X T W Z) (pCons m1 da (pCons m2 db (pCons m3 dc pNil)))) := sp_cons n1 ha (sp_cons n2 hb (sp_cons n3 hcc sp_nil))
  refine ss_parP (PS.imp (ps_par3 hcm hN hi hj hl hij hil hjl hx hy hz hA (swapped_three hk hx hy hz hp hp2 hn hn2 hn3 (by simp [hs.1, hs.2.1, hs.2.2]) hf hc) rfl) fun D σ H q => tP_mono q fun vs H1 ⟨hl, hq⟩ => ?_)
  match vs, hl with
  | [v, w, u], _ => exact ⟨v, w, u, rfl, hq⟩
end
end SE
set_option Elab.async false
set_option linter.all false
set_option maxRecDepth 100000
set_option maxHeartbeats 4000000
namespace SE
open PySem L2
section
open PySem PySem.Spec PyProof.Rows HT
variable {prog : Program} {w : World} {A : Around} {E : Value → Shared → Prop} {s : Shared}
theorem sliceApplied_rev {sl : Addr} {vl vu vs : Value} {n : Nat} {Q : Int × Int × Nat → Shared → Prop} (hs : s.heap.IsSliceOf sl vl vu vs) (pl : IsPart vl none) (pu : IsPart vu none) (ps : IsPart vs (some (-1)))
    (h : Q ((n : Int) - 1, -1, n) s) : wpAny (model prog w) A (Builtin.Slice.sliceApplied (.ref sl) (pure (n : Int))) Q E s := by
  obtain ⟨os, hos, hcs, hds⟩ := id hs
  unfold Builtin.Slice.sliceApplied Builtin.Slice.sliceFields
  refine wpAny_bind (wpAny_bind (wpAny_field hos hds (x := vl) rfl (wpAny_bind (wpAny_field hos hds (x := vu) rfl (wpAny_bind (wpAny_field hos hds (x := vs) rfl (wpAny_pure ?_)))))))
  refine wpAny_bind (slicePart_ ps ?_)
  show wpAny _ _ (if ((-1 : Int) == 0) = true then _ else _) _ _ s
  rw [if_neg (by decide)]
  refine wpAny_bind (slicePart_ pl (wpAny_bind (slicePart_ pu (wpAny_bind (wpAny_pure ?_)))))
  show wpAny _ _ (match Builtin.Slice.sliceAdjust none none (-1) (n : Int) with | (lo, hi) => pure (lo, (-1 : Int), Builtin.Slice.slicePlaces lo hi (-1))) _ _ s
  have e1 : Builtin.Slice.sliceAdjust none none (-1) (n : Int) = ((n : Int) - 1, -1) := by
    simp [Builtin.Slice.sliceAdjust]
  rw [e1]
  show wpAny _ _ (pure ((n : Int) - 1, (-1 : Int), Builtin.Slice.slicePlaces ((n : Int) - 1) (-1) (-1))) _ _ s
  have e2 : Builtin.Slice.slicePlaces ((n : Int) - 1) (-1) (-1) = n := by
    simp [Builtin.Slice.slicePlaces]
    omega
  rw [e2]
  exact wpAny_pure h
theorem pick_rev (xs : Array Value) : ((List.range xs.size).filterMap fun (m : Nat) => xs[(((xs.size : Int) - 1) + (m : Int) * (-1)).toNat]?).toArray = xs.toList.reverse.toArray := by
  have e : (List.range xs.size).filterMap (fun (m : Nat) => xs[(((xs.size : Int) - 1) + (m : Int) * (-1)).toNat]?) = ((List.range xs.size).map fun k => xs.size - 1 - k).filterMap (xs[·]?) := by
    rw [List.filterMap_map]
    congr 1
    funext m
    simp only [Function.comp_def]
    congr 1
    omega
  rw [e, PySem.W.krv_range, List.filterMap_reverse, PySem.W.krv_all]
theorem getItem_tuple_rev {t sl : Addr} {items : Array Value} {vl vu vs : Value} {Q : Value → Shared → Prop} (ht : IsTup s.heap t items) (hs : s.heap.IsSliceOf sl vl vu vs) (pl : IsPart vl none) (pu : IsPart vu none) (ps : IsPart vs (some (-1)))
    (h : Q (.ref s.heap.objs.size) { s with heap := s.heap.push { cls := .type "tuple", data := .seq items.toList.reverse.toArray } })
    (hsz : items.size ≤ sizeLine) : wpAny (model prog w) A (getItem (.ref t) (.ref sl)) Q E s := by
  have htake : sizeOk (.seq items.toList.reverse.toArray) := by
    show items.toList.reverse.toArray.size ≤ sizeLine
    rw [List.size_toArray, List.length_reverse, Array.length_toList]
    exact hsz
  obtain ⟨os, hos, hcs, hds⟩ := id hs
  have hTs : s.TypeIs (.ref sl) "slice" := ⟨os, hos, hcs⟩
  unfold getItem
  try with_reducible refine wpAny_holding ?_
  first | refine wpAny_bind (wpAny_pure ?_) | skip
  refine wpAny_bind (wpAny_sequenceKey ht.typeIs (by decide) ?_)
  refine wpAny_bind (wpAny_callSpecial?_slot (name := Str.ofString "__getitem__") ht.typeIs PyProof.Rows.slot_tuple_getitem
    (wpAny_call_entry PyProof.Rows.slot_tuple_getitem ht.typeIs entry_tuple_getitem ?_ (args_tuple_getitem _ _)))
  show wpAny _ _ (Builtin.Tuple.tupleItemsOf (.ref t) >>= _) _ _ s
  refine wpAny_bind (tupleItemsOf_ ht ?_)
  refine wpAny_bind (wpAny_typeOf hTs ?_)
  rw [if_pos (by decide)]
  refine wpAny_bind (sliceApplied_rev hs pl pu ps ?_)
  have hno : ¬ ((((items.size : Int) - 1) == 0 && (-1 : Int) == 1 && items.size == items.size) = true) := by
    simp
  show wpAny _ _ (if (((items.size : Int) - 1) == 0 && (-1 : Int) == 1 && items.size == items.size) = true then _ else _) _ _ s
  rw [if_neg hno, pick_rev]
  first
    | exact wpAny_bind (m := Builtin.Tuple.tupleExact _) (wpAny_newObj_type (wpAny_pure ⟨_, rfl, wpAny_pure h⟩) htake)
    | exact wpAny_bind (m := Builtin.Tuple.tupleExact _) (wpAny_newObj_type (wpAny_bind (wpAny_pure (wpAny_pure ⟨_, rfl, wpAny_pure h⟩))) htake)
    | exact wpAny_bind (wpAny_bind (m := Builtin.Tuple.tupleExact _) (wpAny_newObj_type (wpAny_pure (wpAny_pure ⟨_, rfl, wpAny_pure h⟩)) htake))
    | exact wpAny_bind (wpAny_bind (m := Builtin.Tuple.tupleExact _) (wpAny_newObj_type (wpAny_pure ⟨_, rfl, wpAny_pure h⟩) htake))
end
section
open PySem PySem.Spec PyProof.Rows HT
variable {X : Cx}
def tRevA (K : PySem.W.Frag) (te : TE) : TE := fun σ H Q => te σ H fun x H1 => ∃ a xs, x = .ref a ∧ ((SqL K H1 a xs ∧ ∀ p, H1 p = none → Q (.ref p) (upd H1 p (.lst xs.reverse))) ∨ (SqT K H1 a xs ∧ ∀ p, H1 p = none → Q (.ref p) (upd H1 p (.tup xs.reverse))))
theorem pe_revA {e : Expr} {te : TE} {k : Nat} {p1 p2 p3 pos : Pos} (he : PE X e te) : PE X (.Subscript e (.Slice none none (some (.UnaryOp .USub (.Constant (.int 1) k p1) p2)) p3) pos) (tRevA X.K te) := by
  refine ⟨fun pins s σ H Q I h => ?_⟩
  refine Subscript_ (thn (he.run pins s σ H _ I h) fun v s1 ⟨x, H1, I1, r1, q1⟩ => ?_)
  obtain ⟨a, xs, ex, hor⟩ := q1
  subst ex
  cases r1
  have hst : PO X (some (.UnaryOp .USub (.Constant (.int 1) k p1) p2)) (tPart (tUn (rU fun i => .int (-i)) (tC (.int 1)))) := po_some (pe_un un_neg pe_int)
  refine wpAny_Slice (thn (po_none.run pins s1 σ H1 (fun o H2 => o = none ∧ H2 = H1) I1 ⟨rfl, rfl⟩) fun vl s2 ⟨l, H2, I2, pl, el, e2⟩ => ?_)
  subst el e2
  refine thn (po_none.run pins s2 σ H2 (fun o H3 => o = none ∧ H3 = H2) I2 ⟨rfl, rfl⟩) fun vu s3 ⟨u, H3, I3, pu, eu, e3⟩ => ?_
  subst eu e3
  refine thn (hst.run pins s3 σ H3 (fun o H4 => o = some (-1) ∧ H4 = H3) I3 ⟨1, rfl, -1, rfl, rfl, rfl⟩) fun vs s4 ⟨o, H4, I4, ps, eo, e4⟩ => ?_
  subst eo e4
  have I5 : Inv X pins σ H4 { s4 with heap := s4.heap.push { cls := .type "slice", data := .fields #[vl, vu, vs] } } := I4.kept (t' := s4.toks) fun b ob q => Heap.get?_push_of_some _ q
  show wpAny (model X.prog X.w) X.A (subscriptTail e (.Slice none none (some (.UnaryOp .USub (.Constant (.int 1) k p1) p2)) p3) (.ref a) (.ref s4.heap.objs.size)) (EP X pins σ Q) X.xe { s4 with heap := s4.heap.push { cls := .type "slice", data := .fields #[vl, vu, vs] } }
  rcases hor with ⟨hx, q⟩ | ⟨hx, q⟩
  · obtain ⟨its, r, ht, hz⟩ := I5.list hx
    have hlen := r.length
    refine tail_any (ops := [.ref a, .ref s4.heap.objs.size]) ht.isList.typeIs (PySem.slot_list_getitem.lookup) ?_ (by with_unfolding_all rfl)
    refine wpAny_getItem_list_slice ht.isList (Heap.IsSliceOf.new _ vl vu vs) pl pu ps (by decide) ?_ (by rw [List.size_toArray]; omega)
    rw [PySem.W.krv_pick]
    refine ⟨.ref _, _, I5.laid (t' := s4.toks) (o := .lst xs.reverse) (fun b ob q => Heap.get?_push_of_some _ q) (Nat.le_refl _) ?_, rfl, q _ (I5.hok.fresh (Nat.le_refl _))⟩
    exact ⟨by rw [List.length_reverse]; exact hz, _, 0, r.reverse, Heap.get?_push_size _ rfl⟩
  · obtain ⟨its, r, ht, hz⟩ := I5.tuple hx
    have hlen := r.length
    refine tail_any (ops := [.ref a, .ref s4.heap.objs.size]) ht.typeIs PyProof.Rows.slot_tuple_getitem.lookup ?_ (by with_unfolding_all rfl)
    refine getItem_tuple_rev ht (Heap.IsSliceOf.new _ vl vu vs) pl pu ps ?_ (by rw [List.size_toArray]; omega)
    refine ⟨.ref _, _, I5.laid (t' := s4.toks) (o := .tup xs.reverse) (fun b ob q => Heap.get?_push_of_some _ q) (Nat.le_refl _) ?_, rfl, q _ (I5.hok.fresh (Nat.le_refl _))⟩
    exact ⟨by rw [List.length_reverse]; exact hz, _, r.reverse, IsTup.new _ _⟩
theorem rpl_rev {K : PySem.W.Frag} {M : Addr → Prop} {H : Hp} : ∀ {ds : List D} {vs : List V}, RpL K M H ds vs → RpL K M H ds.reverse vs.reverse
  | [], vs, r => by
    cases vs with
    | nil => exact r
    | cons v vs => have := r.length; simp at this
  | d :: ds, vs, r => by
    obtain ⟨v, ws, rfl, h1, h2⟩ := r
    rw [List.reverse_cons, List.reverse_cons]
    exact RpL.append (rpl_rev h2) ⟨v, [], rfl, h1, rfl⟩
def fRev : D → Option R
  | .list ds => some (.nw (.list ds.reverse))
  | .tuple ds => some (.va (.tuple ds.reverse))
  | _ => none
theorem se_rev {T : List (Addr × Str)} {W : WX} {Z : Addr → Prop} {e : Expr} {da : DE} {k : Nat} {p1 p2 p3 pos : Pos} (ha : PE X e (tE (gX X T W Z) da)) : PE X (.Subscript e (.Slice none none (some (.UnaryOp .USub (.Constant (.int 1) k p1) p2)) p3) pos) (tE (gX X T W Z) (dUn fRev da)) := by
  refine PE.imp (pe_revA ha) fun σ H Q h => ?_
  obtain ⟨r, S, q⟩ := h
  refine ⟨r, S, aft_mono (aft_bind q) (fun x r1 q1 v H1 E1 R1 => ?_) fun _ _ z => z⟩
  obtain ⟨z, hz, q3⟩ := aft_opt q1
  cases hu : der r1 x with
  | none => rw [hu] at hz; cases hz
  | some u =>
    rw [hu] at hz
    replace hz : fRev u = some z := hz
    have hv := (R1.holds S E1).der E1.sim hu
    unfold fRev at hz
    split at hz
    · cases hz
      obtain ⟨a, vs, e1, l1, r1'⟩ := hv
      refine ⟨a, vs, e1, .inl ⟨l1, fun p hp => ?_⟩⟩
      obtain ⟨a1, a2⟩ := NewR.res S E1 (Ext.new hp) (nw_list hp (rpl_rev r1'))
      exact q3 _ _ a1 a2
    · cases hz
      obtain ⟨a, vs, e1, l1, r1'⟩ := hv
      refine ⟨a, vs, e1, .inr ⟨l1, fun p hp => ?_⟩⟩
      obtain ⟨a1, a2⟩ := NewR.res S E1 (Ext.new hp) (nw_tup E1.sim.min hp (rpl_rev r1'))
      exact q3 _ _ a1 a2
    · cases hz
end
end SE
set_option Elab.async false
set_option linter.all false
set_option maxRecDepth 100000
set_option maxHeartbeats 4000000
namespace SE
open PySem L2
def firstD (d : D) : List D → Nat → Option Nat
  | [], _ => none
  | z :: zs, k => if PyData.eqv z d = true then some k else firstD d zs (k + 1)
theorem firstD_ok {d : D} : ∀ {ds : List D} {k j : Nat}, firstD d ds k = some j → ∃ z, k ≤ j ∧ ds[j - k]? = some z ∧ PyData.eqv z d = true ∧ ∀ (m : Nat) (z' : D), m < j - k → ds[m]? = some z' → PyData.eqv z' d = false
  | [], k, j, h => by cases h
  | z :: zs, k, j, h => by
    unfold firstD at h
    by_cases hc : PyData.eqv z d = true
    · rw [if_pos hc] at h
      cases h
      exact ⟨z, Nat.le_refl _, by simp, hc, fun m z' hm => by omega⟩
    · rw [if_neg hc] at h
      obtain ⟨z', h1, h2, h3, h4⟩ := firstD_ok h
      refine ⟨z', by omega, ?_, h3, fun m w hm hw => ?_⟩
      · rw [show j - k = (j - (k + 1)) + 1 by omega, List.getElem?_cons_succ]
        exact h2
      · cases m with
        | zero =>
          rw [List.getElem?_cons_zero] at hw
          cases hw
          simpa using hc
        | succ m =>
          rw [List.getElem?_cons_succ] at hw
          exact h4 m w (by omega) hw
def fIndex : D → D → Option R
  | .list ds, d => if shp2 (.list ds) d = true then (firstD d ds 0).map fun j => .va (.int (j : Nat)) else none
  | _, _ => none
def isL : Option D → Bool
  | some (.list _) => true
  | _ => false
def dIndex (a b : DE) : DE := fun r => (a r).bind fun x r1 => if isL (der r1 x) = true then (b r1).bind fun y r2 => opt ((der r2 x).bind fun u => (der r2 y).bind fun v => fIndex u v) r2 else .bad
section
variable {X : Cx} {T : List (Addr × Str)} {W : WX} {Z : Addr → Prop} {a b : Expr} {da db : DE} {ap cp : Pos}
theorem se_index (hu : X.A.units + 65 < cLine) (ha : PE X a (tE (gX X T W Z) da)) (hb : PE X b (tE (gX X T W Z) db))
    (hbase : attributeBase a (Str.ofString "index") X.env (eval a X.env) = eval a X.env)
    (hn : ((((backTo cp (starEach [b] X.env)).all fun x => !x.fst) && (backToKw cp (keywordEach [] X.env)).all fun x => x.fst.isSome) && decide (([b].length + ([] : List Keyword).length + if ([] : List Keyword).isEmpty = true then 0 else 1) < 30)) = true)
    (hl : (ap.endLine == cp.line) = true) (hs : ∀ a p, b ≠ .Starred a p) :
    PE X (.Call (.Attribute a (Str.ofString "index") ap) [b] [] cp) (tE (gX X T W Z) (dIndex da db)) := by
  refine PE.imp (pe_bm PySem.F.plainAttrs_list PySem.F.slot_list_index PySem.F.type_list_index (mt_indexD hu) ha (pa_cons hb pa_nil (star_cons hs)) hbase hn hl (star_cons hs) rfl) fun σ H Q h => ?_
  obtain ⟨r, S, q⟩ := h
  refine ⟨r, S, aft_mono (aft_bind q) (fun x r1 q1 v H1 E1 R1 => ?_) fun _ _ z => z⟩
  have q1 := q1
  dsimp only at q1
  split at q1
  · rename_i hL
    cases hx : der r1 x with
    | none => rw [hx] at hL; cases hL
    | some u0 =>
      rw [hx] at hL
      cases u0 with
      | list ds0 =>
        obtain ⟨a0, vs0, e0, l0, _⟩ := (R1.holds S E1).der E1.sim hx
        subst e0
        refine ⟨.inl ⟨rfl, vs0, l0⟩, r1, E1.sim, aft_mono (aft_bind q1) (fun y r2 q2 w H2 E2 R2 => ?_) fun _ _ z => exW.then S E1 z⟩
        have E12 := E1.trans S E2
        obtain ⟨z, hz, q3⟩ := aft_opt q2
        cases hu1 : der r2 x with
        | none => rw [hu1] at hz; cases hz
        | some u =>
          cases hv : der r2 y with
          | none => rw [hu1, hv] at hz; cases hz
          | some v' =>
            rw [hu1, hv] at hz
            replace hz : fIndex u v' = some z := hz
            have m1 := ((R1.holds S E1).kept E1.sim E2).der E2.sim hu1
            have m2 := (R2.holds E1.sim E2).der E2.sim hv
            unfold fIndex at hz
            split at hz
            · rename_i ds
              by_cases hsh : shp2 (.list ds) v' = true
              case neg => rw [if_neg hsh] at hz; cases hz
              rw [if_pos hsh] at hz
              obtain ⟨j, hj, ez⟩ := Option.map_eq_some_iff.mp hz
              subst ez
              unfold shp2 at hsh
              rw [Bool.and_eq_true] at hsh
              obtain ⟨zz, _, g2, g3, g4⟩ := firstD_ok hj
              rw [Nat.sub_zero] at g2 g4
              refine ⟨a0, w, v', ds, j, zz, rfl, rfl, shaped_dp m1 hsh.1, shaped_dp m2 hsh.2, hsh.1, hsh.2, g2, g3, g4, ?_⟩
              obtain ⟨a1, a2⟩ := NewR.res S E12 (Ext.refl H2) (q := .va (.int (j : Nat))) (z := .int (j : Nat)) (by simp [NewR, Rp])
              exact q3 _ _ a1 a2
            · cases hz
      | _ => cases hL
  · exact q1.elim
end
end SE
set_option Elab.async false
set_option linter.all false
set_option maxRecDepth 100000
set_option maxHeartbeats 2000000
namespace SE
open PySem L2
def isSlice : Expr → Bool
  | .Slice _ _ _ _ => true
  | _ => false
theorem plainIx_ok {b : Expr} (h : isSlice b = false) : PlainIx b := fun o i => by
  cases b <;> first | rfl | cases h
def mAppend : Str := Str.ofString "append"
def mExtend : Str := Str.ofString "extend"
def mInsert : Str := Str.ofString "insert"
def mIndex : Str := Str.ofString "index"
def mPop : Str := Str.ofString "pop"
def cO (E : Expr → Option DE) : Option Expr → Option DO
  | none => some oNone
  | some e => (E e).map oSome
def cAnd (E : Expr → Option DE) : List Expr → Option DE
  | [] => none
  | [a] => E a
  | a :: b :: r => (E a).bind fun da => (cAnd E (b :: r)).map fun db => dAnd da db
def cOr (E : Expr → Option DE) : List Expr → Option DE
  | [] => none
  | [a] => E a
  | a :: b :: r => (E a).bind fun da => (cOr E (b :: r)).map fun db => dOr da db
def cCmp (E : Expr → Option DE) (a : Expr) : List CmpOp → List Expr → Option DE
  | [op], [b] => if behindInMarks op b = false then (cmpF op).bind fun f => (E a).bind fun da => (E b).map fun db => dOp f da db else none
  | [op, op'], [b, e] => if lastMarks [op, op'] [b, e] = false then (cmpF op).bind fun f => (cmpF op').bind fun f' => (E a).bind fun da => (E b).bind fun db => (E e).map fun de => dChain f f' da db de else none
  | [op, op', op''], [b, e, g] => if lastMarks [op, op', op''] [b, e, g] = false then (cmpF op).bind fun f => (cmpF op').bind fun f' => (cmpF op'').bind fun f'' => (E a).bind fun da => (E b).bind fun db => (E e).bind fun de => (E g).map fun dg => dChain3 f f' f'' da db de dg else none
  | _, _ => none
/-- the items of a display -/
def cAs (E : Expr → Option DE) : List Expr → Option DA
  | [] => some aNil
  | .Starred a _ :: es => (E a).bind fun d => (cAs E es).map fun ds => aStar d ds
  | e :: es => if notStar e = true then (E e).bind fun d => (cAs E es).bind fun ds => some (aCons d ds) else none
def noPar (p : Arguments) : Bool := match p with
  | ⟨[], [], none, [], [], none, []⟩ => true
  | _ => false
theorem noPar_ok {p : Arguments} (h : noPar p = true) : p = ⟨[], [], none, [], [], none, []⟩ := by
  unfold noPar at h
  split at h
  · rfl
  · cases h
def isFnL : ScopeKind → Bool
  | .function => true
  | _ => false
def lamB (sc scope : Scope) : Bool := isFnL scope.kind && !scope.isCoroutine && !scope.isGenerator && scope.names.all fun y => match y.2 with
  | .local => false
  | .cell => false
  | .free => (match List.lookup y.1 sc.names with
    | some .cell => true
    | some .free => true
    | _ => false)
  | _ => true
theorem lamB_ok {sc scope : Scope} (h : lamB sc scope = true) : LamX.LamS sc scope := by
  simp only [lamB, Bool.and_eq_true, Bool.not_eq_true'] at h
  obtain ⟨⟨⟨h1, h2⟩, h3⟩, h4⟩ := h
  refine ⟨?_, h2, h3, fun y hy => ?_, fun y hy e => ?_⟩
  · cases hq : scope.kind with
    | function => rfl
    | _ => rw [hq] at h1; cases h1
  · have := List.all_eq_true.mp h4 y hy
    constructor <;> (intro e; rw [e] at this; cases this)
  · have := List.all_eq_true.mp h4 y hy
    rw [e] at this
    dsimp only at this
    split at this
    · rename_i e; exact .inl e
    · rename_i e; exact .inr e
    · cases this
def lamCC (C : CC) (scope : Scope) : CC := { C with sc := scope, fc := [], tl := false }
def toldE (c : Cmp) (C : CC) (w : Str) (kf : Str → Option Str) : Expr → List Expr → Option DE
  | .Lambda params body scope _, [] => if (C.tl && C.hm == 0 && noPar params && lamB C.sc scope) = true then (c.E (lamCC C scope) body).map (dTold w kf) else none
  | _, _ => none
def callE (c : Cmp) (C : CC) (x : Str) (es : List Expr) : Option DE :=
  match es with
  | [] => none
  | e :: r => if (glB C.sc x && okName x) = true then match List.lookup x C.gl with
      | some .blt => (bltF C.gd (C.hm == 0) x).bind fun f => (cR (c.E C) (e :: r)).map (dB f)
      | some (.fn np F gd) => if (C.hm == 0 && ((e :: r).length == np && (!gd || C.gd))) = true then (cR (c.E C) (e :: r)).map (dCall F) else none
      | some (.told w kf) => toldE c C w kf e r
      | _ => none
    else none
def methE (c : Cmp) (C : CC) (x m : Str) (es : List Expr) : Option DE :=
  (slotOf C x).bind fun i => match es with
  | [] => if m = mPop then some (dMut i gPop aNil) else none
  | [e] => if m = mExtend then (if notStar e = true then (c.E C e).map (dExt i) else none)
      else if m = mAppend then (cA (c.E C) [e]).map (dMut i gAppend) else if m = mPop then (cA (c.E C) [e]).map (dMut i gPopAt) else if m = mIndex then (if notStar e = true then (c.E C e).map (dIndex (dVar i)) else none) else none
  | [e, f] => if m = mInsert then (cA (c.E C) [e, f]).map (dMut i gInsert) else none
  | _ => none
def nameE (C : CC) (x : Str) : Option DE :=
  match slotOf C x with
  | some i => some (dVar i)
  | none => if (glB C.sc x && okName x) = true then match List.lookup x C.gl with
      | some (.con d) => some (dC d)
      | _ => none
    else none
def stepE (c : Cmp) (C : CC) (e : Expr) : Option DE :=
  match e with
  | .Constant k _ _ => (constD k).map dC
  | .Name x _ => nameE C x
  | .BinOp a op b _ => (opF op).bind fun f => (c.E C a).bind fun da => (c.E C b).map fun db => dOp f da db
  | .UnaryOp .Not a _ => (c.E C a).map dNot
  | .UnaryOp .USub a _ => (c.E C a).map (dUn fNeg)
  | .BoolOp .And es _ => cAnd (c.E C) es
  | .BoolOp .Or es _ => cOr (c.E C) es
  | .Compare a ops bs _ => cCmp (c.E C) a ops bs
  | .IfExp t a b _ => (c.T C t).bind fun dt => (c.E C a).bind fun da => (c.E C b).map fun db => dIf dt da db
  | .Tuple es _ _ => (cAs (c.E C) es).map dTup
  | .List es _ => (cAs (c.E C) es).map dLst
  | .Subscript a (.Slice none none (some (.UnaryOp .USub (.Constant (.int 1) _ _) _)) _) _ => (c.E C a).map (dUn fRev)
  | .Subscript a (.Slice lo hi none _) _ => (c.E C a).bind fun da => (cO (c.E C) lo).bind fun dl => (cO (c.E C) hi).map fun dh => dSl fSl da dl dh
  | .Subscript a b _ => if isSlice b = false then (c.E C a).bind fun da => (c.E C b).map fun db => dOp fIx da db else none
  | .Call (.Name x _) es [] _ => callE c C x es
  | .Call (.Attribute (.Name x _) m ap) es [] cp => if (ap.endLine == cp.line) = true then methE c C x m es else none
  | .ListComp _ _ _ _ => cLc c C e
  | _ => none
section
variable {X : Cx} {C : CC} {T : List (Addr × Str)} {W : WX} {lev : Nat} {Z : Addr → Prop} {E : Expr → Option DE}
theorem cAnd_ok (hE : ∀ e d, E e = some d → PE X e (tE (gX X T W Z) d)) : ∀ {es : List Expr} {d : DE} {pos : Pos}, cAnd E es = some d → PE X (.BoolOp .And es pos) (tE (gX X T W Z) d)
  | [], d, pos, h => by cases h
  | [a], d, pos, h => se_one (hE a d h)
  | a :: b :: r, d, pos, h => by
    obtain ⟨da, h1, h⟩ := bind_some2 h
    obtain ⟨db, h2, e⟩ := Option.map_eq_some_iff.mp h
    subst e
    exact se_and (hE a da h1) (cAnd_ok hE h2)
theorem cOr_ok (hE : ∀ e d, E e = some d → PE X e (tE (gX X T W Z) d)) : ∀ {es : List Expr} {d : DE} {pos : Pos}, cOr E es = some d → PE X (.BoolOp .Or es pos) (tE (gX X T W Z) d)
  | [], d, pos, h => by cases h
  | [a], d, pos, h => se_one (hE a d h)
  | a :: b :: r, d, pos, h => by
    obtain ⟨da, h1, h⟩ := bind_some2 h
    obtain ⟨db, h2, e⟩ := Option.map_eq_some_iff.mp h
    subst e
    exact se_or (hE a da h1) (cOr_ok hE h2)
theorem cCmp_ok (o : OkX X C T W lev) (hE : ∀ e d, E e = some d → PE X e (tE (gX X T W Z) d)) {a : Expr} {ops : List CmpOp} {bs : List Expr} {d : DE} {pos : Pos} (h : cCmp E a ops bs = some d) : PE X (.Compare a ops bs pos) (tE (gX X T W Z) d) := by
  unfold cCmp at h
  split at h
  · obtain ⟨hm, h⟩ := ite_none h
    obtain ⟨f, h1, h⟩ := bind_some2 h
    obtain ⟨da, h2, h⟩ := bind_some2 h
    obtain ⟨db, h3, e⟩ := Option.map_eq_some_iff.mp h
    subst e
    exact se_cmp (cmp_ok o h1) (hE _ _ h2) (hE _ _ h3) hm
  · obtain ⟨hm, h⟩ := ite_none h
    obtain ⟨f, h1, h⟩ := bind_some2 h
    obtain ⟨f', h1', h⟩ := bind_some2 h
    obtain ⟨da, h2, h⟩ := bind_some2 h
    obtain ⟨db, h3, h⟩ := bind_some2 h
    obtain ⟨de, h4, e⟩ := Option.map_eq_some_iff.mp h
    subst e
    exact se_chain (cmp_ok o h1) (cmp_ok o h1') (hE _ _ h2) (hE _ _ h3) (hE _ _ h4) hm
  · obtain ⟨hm, h⟩ := ite_none h
    obtain ⟨f, h1, h⟩ := bind_some2 h
    obtain ⟨f', h1', h⟩ := bind_some2 h
    obtain ⟨f'', h1'', h⟩ := bind_some2 h
    obtain ⟨da, h2, h⟩ := bind_some2 h
    obtain ⟨db, h3, h⟩ := bind_some2 h
    obtain ⟨de, h4, h⟩ := bind_some2 h
    obtain ⟨dg, h5, e⟩ := Option.map_eq_some_iff.mp h
    subst e
    exact se_chain3 (cmp_ok o h1) (cmp_ok o h1') (cmp_ok o h1'') (hE _ _ h2) (hE _ _ h3) (hE _ _ h4) (hE _ _ h5) hm
  · cases h
theorem cAs_ok (hE : ∀ e d, E e = some d → PE X e (tE (gX X T W Z) d)) : ∀ {es : List Expr} {dr : DA}, cAs E es = some dr → PA X es (tA (gX X T W Z) dr)
  | [], dr, h => by
    cases h
    exact sa_nil
  | e :: es, dr, h => by
    unfold cAs at h
    split at h
    · rename_i heq
      cases heq
    · rename_i a p es' heq
      cases heq
      obtain ⟨d, hd, h⟩ := bind_some2 h
      obtain ⟨ds, hds, e2⟩ := Option.map_eq_some_iff.mp h
      subst e2
      exact sa_star (hE _ _ hd) (cAs_ok hE hds)
    · rename_i e' es' _ heq
      cases heq
      obtain ⟨hs, h⟩ := ite_none h
      obtain ⟨d, hd, h⟩ := bind_some2 h
      obtain ⟨ds, hds, h⟩ := bind_some2 h
      cases h
      exact sa_cons (notStar_ok hs) (hE _ _ hd) (cAs_ok hE hds)
theorem cO_ok (hE : ∀ e d, E e = some d → PE X e (tE (gX X T W Z) d)) {x : Option Expr} {d : DO} (h : cO E x = some d) : PO X x (tO (gX X T W Z) d) := by
  unfold cO at h
  split at h
  · cases h
    exact so_none
  · obtain ⟨da, h1, e⟩ := Option.map_eq_some_iff.mp h
    subst e
    exact so_some (hE _ _ h1)
theorem nameE_ok (o : OkX X C T W lev) {x : Str} {d : DE} {pos : Pos} (h : nameE C x = some d) : PE X (.Name x pos) (tE (gX X T W Z) d) := by
  unfold nameE at h
  split at h
  · rename_i i hi
    cases h
    exact se_var (slot_ok o hi)
  · obtain ⟨hc, h⟩ := ite_none h
    simp only [Bool.and_eq_true] at hc
    split at h
    · rename_i d' hl
      cases h
      obtain ⟨v, u, h1, h2, h3⟩ := o.g.con x d' hl
      exact se_const (pe_glob (glB_ok o hc.1) h1 h2 (okName_ok hc.2).1) h3
    · cases h
theorem toldE_ok {c : Cmp} (hc : Sound c) (o : OkX X C T W lev) {x w : Str} {kf : Str → Option Str} {e : Expr} {r : List Expr} {d : DE} {p pos : Pos} (hl : List.lookup x C.gl = some (.told w kf)) (hg : glB C.sc x = true) (hn : okName x = true) (h : toldE c C w kf e r = some d) : PE X (.Call (.Name x p) (e :: r) [] pos) (tE (gX X T W Z) d) := by
  unfold toldE at h
  split at h
  · rename_i params body scope lpos
    obtain ⟨hk, h⟩ := ite_none h
    simp only [Bool.and_eq_true, beq_iff_eq] at hk
    obtain ⟨⟨⟨h1, h2⟩, h3⟩, h4⟩ := hk
    obtain ⟨db, hd, e2⟩ := Option.map_eq_some_iff.mp h
    subst e2
    have := noPar_ok h3
    subst this
    obtain ⟨g, a, pg, bg, sg, dV, kV, doc, pm, an, cdv, ct, oc, od, osl, Ng, b1, b2, b3, b4, b5, b6, b7, b8, b9, b10, b11⟩ := o.g.told x w kf hl
    obtain ⟨hr, c1, P1, t1, t2, t3, t4⟩ := o.tld h1
    have L : LamX.LamS X.env.scope scope := by rw [o.sc]; exact lamB_ok h4
    exact PE.imp (pe_lamcallN (t := fun E => tE { K := X.K, T := T, mg := X.mg, W := fun c dd _ H => E c dd H, Z := Z } db) (glB_ok o hg) b1 b2 b3 b4 b5 b6 b7 b8 (b11 X rfl rfl rfl rfl rfl _) t1 t2 t3 t4 hr L rfl (fun _ _ _ _ _ => rfl)
      (fun A outer s H E f c' hgd hr2 => hc.E (X := lamCxN X A outer s H E scope f c') (C := lamCC C scope) (T := T) (W := fun c dd _ H => E c dd H) (lev := lev)
        ⟨o.g, o.N, rfl, o.nd, fun _ => rfl, fun z => absurd (h2.symm.trans z) (by decide), (fun z => nomatch z), takes_lamN, fun _ => hr2, by have := hr2.un; show (A.deeper (LamX.lamEnv X scope s.heap.objs.size f c')).units + 66 < cLine; omega, fun z => hgd.trans (o.gd z), fun x hx => nomatch hx⟩ hd Z) (okName_ok hn).1 b9 b10)
      fun σ H Q q => told_read q
  · cases h
theorem callE_ok {c : Cmp} (hc : Sound c) (o : OkX X C T W lev) {x : Str} {es : List Expr} {d : DE} {p pos : Pos} (h : callE c C x es = some d) : PE X (.Call (.Name x p) es [] pos) (tE (gX X T W Z) d) := by
  unfold callE at h
  split at h
  · cases h
  · rename_i e r
    obtain ⟨hk, h⟩ := ite_none h
    simp only [Bool.and_eq_true] at hk
    split at h
    · rename_i hl
      obtain ⟨f, h1, h⟩ := bind_some2 h
      obtain ⟨dr, h2, e2⟩ := Option.map_eq_some_iff.mp h
      subst e2
      obtain ⟨a1, a2, a3⟩ := cR_ok (fun e d he => hc.E o he Z) h2
      exact blt_ok o h1 hk.1 hl a2 a1
    · rename_i np F gd hl
      obtain ⟨hn, h⟩ := ite_none h
      simp only [Bool.and_eq_true, beq_iff_eq, Bool.or_eq_true, Bool.not_eq_true'] at hn
      obtain ⟨hn0, hn⟩ := hn
      obtain ⟨dr, h2, e2⟩ := Option.map_eq_some_iff.mp h
      subst e2
      obtain ⟨a1, a2, a3⟩ := cR_ok (fun e d he => hc.E o he Z) h2
      obtain ⟨k, f, fd, ps, b1, b2, b3, b4, b5, b6⟩ := o.g.fn x np F gd hl
      refine se_call o.tk b6 (fun z => o.gd (hn.2.resolve_left (by rw [z]; exact fun q => by cases q))) ((o.room hn0).mono b1) (glB_ok o hk.1) b2 b3 b4 a1 (by rw [hn.1, b5]) (okName_ok hk.2).1 (a2 e List.mem_cons_self) (star_not fun a ha => a2 a (List.mem_cons_of_mem _ ha)) a3
    · rename_i w kf hl
      exact toldE_ok hc o hl hk.1 hk.2 h
    · cases h
theorem methE_ok {c : Cmp} (hc : Sound c) (o : OkX X C T W lev) {x m : Str} {es : List Expr} {d : DE} {p ap pos : Pos} (hl : (ap.endLine == pos.line) = true) (h : methE c C x m es = some d) : PE X (.Call (.Attribute (.Name x p) m ap) es [] pos) (tE (gX X T W Z) d) := by
  unfold methE at h
  obtain ⟨i, hi, h⟩ := bind_some2 h
  have hv : PE X (.Name x p) (tVar i) := slot_ok o hi
  have hn1 : ∀ {e : Expr}, notStar e = true → ((((backTo pos (starEach [e] X.env)).all fun x => !x.1) && (backToKw pos (keywordEach [] X.env)).all fun x => x.1.isSome) && decide (([e].length + ([] : List Keyword).length + if ([] : List Keyword).isEmpty = true then 0 else 1) < 30)) = true := fun {e} he => by
    rw [star_cons (notStar_ok he)]
    rfl
  have hn2 : ∀ {e f : Expr}, notStar e = true → notStar f = true → ((((backTo pos (starEach [e, f] X.env)).all fun x => !x.1) && (backToKw pos (keywordEach [] X.env)).all fun x => x.1.isSome) && decide (([e, f].length + ([] : List Keyword).length + if ([] : List Keyword).isEmpty = true then 0 else 1) < 30)) = true := fun {e f} he hf => by
    rw [star_cons (notStar_ok he), star_cons (notStar_ok hf)]
    rfl
  have st : ∀ {e : Expr} {r : List Expr}, (∀ a ∈ e :: r, ∀ b p, a ≠ Expr.Starred b p) → notStar e = true := fun {e r} h => by
    cases e <;> first | rfl | exact absurd rfl (h _ List.mem_cons_self _ _)
  split at h
  · by_cases hm : m = mPop
    · rw [if_pos hm] at h
      cases h
      subst hm
      exact se_mut0 ml_pop PySem.F.slot_list_pop PySem.F.type_list_pop hv rfl hl
    · rw [if_neg hm] at h; cases h
  · rename_i e hh0
    by_cases hm : m = mExtend
    · rw [if_pos hm] at h
      obtain ⟨he, h⟩ := ite_none h
      obtain ⟨de, h1, e2⟩ := Option.map_eq_some_iff.mp h
      subst e2 hm
      exact se_extend PySem.F.slot_list_extend PySem.F.type_list_extend hv (hc.E o h1 Z) rfl (hn1 he) hl (notStar_ok he) rfl
    · rw [if_neg hm] at h
      by_cases hm : m = mAppend
      · rw [if_pos hm] at h
        obtain ⟨dA, h1, e2⟩ := Option.map_eq_some_iff.mp h
        subst e2 hm
        obtain ⟨a1, a2⟩ := cA_ok (fun e d he => hc.E o he Z) h1
        exact se_mut ml_append PySem.F.slot_list_append PySem.F.type_list_append hv a1 rfl (hn1 (st a2)) hl (a2 e List.mem_cons_self) rfl
      · rw [if_neg hm] at h
        by_cases hm : m = mPop
        · rw [if_pos hm] at h
          obtain ⟨dA, h1, e2⟩ := Option.map_eq_some_iff.mp h
          subst e2 hm
          obtain ⟨a1, a2⟩ := cA_ok (fun e d he => hc.E o he Z) h1
          exact se_mut ml_popAt PySem.F.slot_list_pop PySem.F.type_list_pop hv a1 rfl (hn1 (st a2)) hl (a2 e List.mem_cons_self) rfl
        · rw [if_neg hm] at h
          by_cases hm : m = mIndex
          · rw [if_pos hm] at h
            obtain ⟨he, h⟩ := ite_none h
            obtain ⟨de, h1, e2⟩ := Option.map_eq_some_iff.mp h
            subst e2 hm
            exact se_index (by have := o.un; omega) (nameE_ok o (by unfold nameE; rw [hi])) (hc.E o h1 Z) rfl (hn1 he) hl (notStar_ok he)
          · rw [if_neg hm] at h; cases h
  · rename_i e f hh0
    by_cases hm : m = mInsert
    · rw [if_pos hm] at h
      obtain ⟨dA, h1, e2⟩ := Option.map_eq_some_iff.mp h
      subst e2 hm
      obtain ⟨a1, a2⟩ := cA_ok (fun e d he => hc.E o he Z) h1
      have hf := a2 f (List.mem_cons_of_mem _ List.mem_cons_self)
      have hf' : notStar f = true := by cases f <;> first | rfl | exact absurd rfl (hf _ _)
      exact se_mut ml_insert PySem.F.slot_list_insert PySem.F.type_list_insert hv a1 rfl (hn2 (st a2) hf') hl (a2 e List.mem_cons_self) (star_not fun a ha => a2 a (List.mem_cons_of_mem _ ha))
    · rw [if_neg hm] at h; cases h
  · cases h
theorem stepE_ok {c : Cmp} (hc : Sound c) (o : OkX X C T W lev) {e : Expr} {d : DE} (h : stepE c C e = some d) : PE X e (tE (gX X T W Z) d) := by
  have hE : ∀ e d, c.E C e = some d → PE X e (tE (gX X T W Z) d) := fun e d he => hc.E o he Z
  unfold stepE at h
  split at h
  · obtain ⟨k, h1, e2⟩ := Option.map_eq_some_iff.mp h
    subst e2
    exact const_ok h1
  · exact nameE_ok o h
  · obtain ⟨f, h1, h⟩ := bind_some2 h
    obtain ⟨da, h2, h⟩ := bind_some2 h
    obtain ⟨db, h3, e2⟩ := Option.map_eq_some_iff.mp h
    subst e2
    exact se_op (op_ok h1) (hE _ _ h2) (hE _ _ h3)
  · obtain ⟨da, h1, e2⟩ := Option.map_eq_some_iff.mp h
    subst e2
    exact se_not (hE _ _ h1)
  · obtain ⟨da, h1, e2⟩ := Option.map_eq_some_iff.mp h
    subst e2
    exact se_un un_neg' (hE _ _ h1)
  · exact cAnd_ok hE h
  · exact cOr_ok hE h
  · exact cCmp_ok o hE h
  · obtain ⟨dt, h1, h⟩ := bind_some2 h
    obtain ⟨da, h2, h⟩ := bind_some2 h
    obtain ⟨db, h3, e2⟩ := Option.map_eq_some_iff.mp h
    subst e2
    exact se_if (hc.T o h1 Z) (hE _ _ h2) (hE _ _ h3)
  · obtain ⟨dA, h1, e2⟩ := Option.map_eq_some_iff.mp h
    subst e2
    exact se_tup (cAs_ok hE h1)
  · obtain ⟨dA, h1, e2⟩ := Option.map_eq_some_iff.mp h
    subst e2
    exact se_lst (cAs_ok hE h1)
  · obtain ⟨da, h1, e2⟩ := Option.map_eq_some_iff.mp h
    subst e2
    exact se_rev (hE _ _ h1)
  · obtain ⟨da, h1, h⟩ := bind_some2 h
    obtain ⟨dl, h2, h⟩ := bind_some2 h
    obtain ⟨dh, h3, e2⟩ := Option.map_eq_some_iff.mp h
    subst e2
    exact se_slice sl_all (hE _ _ h1) (cO_ok hE h2) (cO_ok hE h3)
  · obtain ⟨hb, h⟩ := ite_none h
    obtain ⟨da, h1, h⟩ := bind_some2 h
    obtain ⟨db, h2, e2⟩ := Option.map_eq_some_iff.mp h
    subst e2
    exact se_ix ix_all (plainIx_ok hb) (hE _ _ h1) (hE _ _ h2)
  · exact callE_ok hc o h
  · obtain ⟨hl, h⟩ := ite_none h
    exact methE_ok hc o hl h
  · exact lc_ok hc o h Z
  · cases h
end
def tAnds (T : Expr → Option DT) : List Expr → Option DT
  | [] => none
  | [a] => T a
  | a :: b :: r => (T a).bind fun da => (tAnds T (b :: r)).map fun db => SE.tAnd da db
def tOrs (T : Expr → Option DT) : List Expr → Option DT
  | [] => none
  | [a] => T a
  | a :: b :: r => (T a).bind fun da => (tOrs T (b :: r)).map fun db => SE.tOr da db
def isPlain : Expr → Bool
  | .Name _ _ => true
  | .Call _ _ _ _ => true
  | .Subscript _ _ _ => true
  | _ => false
def stepT (c : Cmp) (C : CC) (e : Expr) : Option DT :=
  match e with
  | .BoolOp .And es _ => tAnds (c.T C) es
  | .BoolOp .Or es _ => tOrs (c.T C) es
  | .UnaryOp .Not a _ => (c.T C a).map SE.tNot
  | .Compare a ops bs _ => (cCmp (c.E C) a ops bs).map SE.tB
  | e => if isPlain e = true then (c.E C e).map SE.tVal else none
section
variable {X : Cx} {C : CC} {T : List (Addr × Str)} {W : WX} {lev : Nat} {Z : Addr → Prop} {E : Expr → Option DE}
theorem tAnds_ok {Tt : Expr → Option DT} (hT : ∀ e d, Tt e = some d → PT X e (tT (gX X T W Z) d)) : ∀ {es : List Expr} {d : DT} {pos : Pos}, tAnds Tt es = some d → PW X (.BoolOp .And es pos) (tT (gX X T W Z) d)
  | [], d, pos, h => by cases h
  | [a], d, pos, h => sw_and1 (hT a d h)
  | a :: b :: r, d, pos, h => by
    obtain ⟨da, h1, h⟩ := bind_some2 h
    obtain ⟨db, h2, e⟩ := Option.map_eq_some_iff.mp h
    subst e
    exact sw_and (hT a da h1) (tAnds_ok hT h2)
theorem tOrs_ok {Tt : Expr → Option DT} (hT : ∀ e d, Tt e = some d → PT X e (tT (gX X T W Z) d)) : ∀ {es : List Expr} {d : DT} {pos : Pos}, tOrs Tt es = some d → PW X (.BoolOp .Or es pos) (tT (gX X T W Z) d)
  | [], d, pos, h => by cases h
  | [a], d, pos, h => sw_or1 (hT a d h)
  | a :: b :: r, d, pos, h => by
    obtain ⟨da, h1, h⟩ := bind_some2 h
    obtain ⟨db, h2, e⟩ := Option.map_eq_some_iff.mp h
    subst e
    exact sw_or (hT a da h1) (tOrs_ok hT h2)
theorem tCmp_ok (o : OkX X C T W lev) (hE : ∀ e d, E e = some d → PE X e (tE (gX X T W Z) d)) {a : Expr} {ops : List CmpOp} {bs : List Expr} {d : DE} {pos : Pos} (h : cCmp E a ops bs = some d) : PT X (.Compare a ops bs pos) (tT (gX X T W Z) (SE.tB d)) := by
  unfold cCmp at h
  split at h
  · obtain ⟨hm, h⟩ := ite_none h
    obtain ⟨f, h1, h⟩ := bind_some2 h
    obtain ⟨da, h2, h⟩ := bind_some2 h
    obtain ⟨db, h3, e⟩ := Option.map_eq_some_iff.mp h
    subst e
    exact st_cmp (cmp_ok o h1) (hE _ _ h2) (hE _ _ h3) hm
  · obtain ⟨hm, h⟩ := ite_none h
    obtain ⟨f, h1, h⟩ := bind_some2 h
    obtain ⟨f', h1', h⟩ := bind_some2 h
    obtain ⟨da, h2, h⟩ := bind_some2 h
    obtain ⟨db, h3, h⟩ := bind_some2 h
    obtain ⟨de, h4, e⟩ := Option.map_eq_some_iff.mp h
    subst e
    exact st_chain (cmp_ok o h1) (cmp_ok o h1') (hE _ _ h2) (hE _ _ h3) (hE _ _ h4) hm
  · obtain ⟨hm, h⟩ := ite_none h
    obtain ⟨f, h1, h⟩ := bind_some2 h
    obtain ⟨f', h1', h⟩ := bind_some2 h
    obtain ⟨f'', h1'', h⟩ := bind_some2 h
    obtain ⟨da, h2, h⟩ := bind_some2 h
    obtain ⟨db, h3, h⟩ := bind_some2 h
    obtain ⟨de, h4, h⟩ := bind_some2 h
    obtain ⟨dg, h5, e⟩ := Option.map_eq_some_iff.mp h
    subst e
    exact st_chain3 (cmp_ok o h1) (cmp_ok o h1') (cmp_ok o h1'') (hE _ _ h2) (hE _ _ h3) (hE _ _ h4) (hE _ _ h5) hm
  · cases h
theorem stepT_ok {c : Cmp} (hc : Sound c) (o : OkX X C T W lev) {e : Expr} {d : DT} (h : stepT c C e = some d) : PT X e (tT (gX X T W Z) d) := by
  have hE : ∀ e d, c.E C e = some d → PE X e (tE (gX X T W Z) d) := fun e d he => hc.E o he Z
  have hT : ∀ e d, c.T C e = some d → PT X e (tT (gX X T W Z) d) := fun e d he => hc.T o he Z
  unfold stepT at h
  split at h
  · exact (tAnds_ok hT h).pt
  · exact (tOrs_ok hT h).pt
  · obtain ⟨da, h1, e2⟩ := Option.map_eq_some_iff.mp h
    subst e2
    exact st_not (hT _ _ h1)
  · obtain ⟨da, h1, e2⟩ := Option.map_eq_some_iff.mp h
    subst e2
    exact tCmp_ok o hE h1
  · obtain ⟨hp, h⟩ := ite_none h
    obtain ⟨da, h1, e2⟩ := Option.map_eq_some_iff.mp h
    subst e2
    refine st_val (hE _ _ h1) fun whole => ?_
    cases e <;> first | rfl | cases hp
end
end SE
set_option Elab.async false
set_option linter.all false
set_option maxRecDepth 100000
set_option maxHeartbeats 2000000
namespace SE
open PySem L2
def isTupE : Expr → Bool
  | .Tuple _ _ _ => true
  | _ => false
def isLocal (C : CC) (x : Str) : Bool := match List.lookup x C.sc.names with
  | some .local => true
  | _ => false
/-- x = [..] takes the list's place at once -/
def isFnK : ScopeKind → Bool
  | .function => true
  | _ => false
def swB (C : CC) (x : Str) (px pos : Pos) (scope : Scope) : Bool :=
  isFnK C.sc.kind && isLocal C x && (px.line == pos.line) && !(scope.names.any fun (n, k) => n == x && (k == NameKind.local || k == NameKind.cell))
def sAsgN (c : Cmp) (C : CC) (x : Str) (px : Pos) (e : Expr) : Option DS :=
  if locB C x = true then (idx C.N x).bind fun i => match e with
    | .ListComp elt gs scope pos => if swB C x px pos scope = true then (cLc c C e).map (sAsg (C.mu.contains i) i)
        else if (isLocal C x && (px.line == pos.line)) = false then (cLc c C e).map (sAsg (C.mu.contains i) i) else none
    | e => if isComp e = false then (c.E C e).map (sAsg (C.mu.contains i) i) else none
  else none
/-- the pair is unpacked as it is -/
def parN (ts es : List Expr) : Bool := es.all (foldedForSure 8) || es.any isStar || !(ts.length == 2 || ts.length == 3)
def parB (C : CC) (x : Str) (px py : Pos) (y : Str) : Bool := isLocal C x && isLocal C y && (py.line == px.line) && !(x == y)
def parE (C : CC) (es : List Expr) : Bool := isFnK C.sc.kind && C.hm == 0 && !(es.any isStar) && !(es.all (foldedForSure 8)) && !(es.all (constantsAlone 8))
def parS (c : Cmp) (C : CC) (ts es : List Expr) : Option DS := match ts, es with
  | [.Name x px, .Name y py], [a, b] => if (parE C [a, b] && parB C x px py y) = true then (idx C.N x).bind fun i => (idx C.N y).bind fun j => (c.E C a).bind fun da => (c.E C b).map fun db =>
      sParP [i, j] (pCons (C.mu.contains i) da (pCons (C.mu.contains j) db pNil)) else none
  | [.Name x px, .Name y py, .Name z pz], [a, b, e] => if (parE C [a, b, e] && (parB C x px py y && (parB C x px pz z && parB C y py pz z))) = true then (idx C.N x).bind fun i => (idx C.N y).bind fun j => (idx C.N z).bind fun l =>
      (c.E C a).bind fun da => (c.E C b).bind fun db => (c.E C e).map fun de => sParP [i, j, l] (pCons (C.mu.contains i) da (pCons (C.mu.contains j) db (pCons (C.mu.contains l) de pNil))) else none
  | _, _ => none
def stepS (c : Cmp) (C : CC) (s : Stmt) : Option DS :=
  match s with
  | .Pass _ => some sNext
  | .Break _ => some sBreak
  | .Continue _ => some sCont
  | .Expr e _ => if isComp e = false then (c.E C e).map sDrop else none
  | .Return none _ => some sRetN
  | .Return (some e) _ => (c.E C e).map sRet
  | .If t a b _ => (c.T C t).bind fun dt => (c.Ss C a).bind fun da => (c.Ss C b).map fun db => sIf dt da db
  | .While t b [] _ => (c.T C t).bind fun dt => (c.Ss C b).map fun db => sWhile dt db
  | .For tg it b [] _ => if (isSet it || C.hm != 0) = false then (cI (c.E C) C tg it).bind fun di => (cP C 4 tg).bind fun p => (c.Ss C b).map fun db => sFor di p db else none
  | .Raise (some (.Call (.Name x _) [.Constant (.str _) _ _] [] _)) none _ => if (C.hm == 0 && (glB C.sc x && okName x)) = true then match List.lookup x C.gl with
      | some (.exc up) => if mkB up = true then some (sRaise x) else none
      | _ => none
    else none
  | .Assign [.Name x px] e _ => sAsgN c C x px e
  | .Assign [.Tuple ts k p] (.Tuple es k2 p2) _ => if parN ts es = true then (cP C 4 (.Tuple ts k p)).bind fun q => (c.E C (.Tuple es k2 p2)).map fun d => sPat q d else parS c C ts es
  | .Assign [.Tuple ts k p] e _ => if (isComp e || isTupE e) = false then (cP C 4 (.Tuple ts k p)).bind fun q => (c.E C e).map fun d => sPat q d else none
  | .Assign [.Subscript (.Name x _) k _] e _ => if (isComp e || isSlice k) = false then (slotOf C x).bind fun i => (c.E C k).bind fun dk => (c.E C e).map fun de => sSub i fSetL dk de else none
  | _ => none
def cSs (S : Stmt → Option DS) : List Stmt → Option DS
  | [] => some sNext
  | s :: ss => (S s).bind fun d => (cSs S ss).map fun ds => sSeq d ds
section
variable {X : Cx} {C : CC} {T : List (Addr × Str)} {W : WX} {lev : Nat} {Z : Addr → Prop}
theorem isComp_ok {e : Expr} (h : isComp e = false) : (∀ a b c p, e ≠ .ListComp a b c p) ∧ (∀ a b c p, e ≠ .SetComp a b c p) ∧ ∀ a b c d p, e ≠ .DictComp a b c d p := by
  refine ⟨fun a b c p z => ?_, fun a b c p z => ?_, fun a b c d p z => ?_⟩ <;> (rw [z] at h; cases h)
theorem swNo {e : Expr} (h : isComp e = false) (t : Option Expr) (n : Nat) : swapsWith e t n X.env = pure false := by
  obtain ⟨a, b, c⟩ := isComp_ok h
  exact swaps_none a b c
theorem isLocal_ok (o : OkX X C T W lev) {x : Str} (h : isLocal C x = true) : List.lookup x X.env.scope.names = some .local := by
  unfold isLocal at h
  rw [o.sc]
  split at h
  · assumption
  · cases h
theorem asgN_ok {c : Cmp} (hc : Sound c) (o : OkX X C T W lev) {x : Str} {px pos : Pos} {e : Expr} {d : DS} (h : sAsgN c C x px e = some d) : PS X (.Assign [.Name x px] e pos) (tS (gX X T W Z) d) := by
  unfold sAsgN at h
  obtain ⟨hl, h⟩ := ite_none h
  obtain ⟨i, hi, h⟩ := bind_some2 h
  obtain ⟨l1, l2⟩ := loc_ok o hl
  have hN : X.N[i]? = some x := by rw [o.N]; exact idx_ok hi
  split at h
  · rename_i elt gs scope p2 hh0 hh1
    by_cases hs : swB C x px p2 scope = true
    · rw [if_pos hs] at h
      obtain ⟨dl, h1, e2⟩ := Option.map_eq_some_iff.mp h
      subst e2
      simp only [swB, Bool.and_eq_true, Bool.not_eq_true'] at hs
      have hloc := isLocal_ok o hs.1.1.2
      have hk : X.env.scope.kind = .function := by
        have := hs.1.1.1
        rw [o.sc]
        cases hq : C.sc.kind with
        | function => rfl
        | _ => rw [hq] at this; cases this
      have h0 := h1
      unfold cLc at h1
      split at h1
      · rename_i elt' g' scope' pos' heq
        cases heq
        obtain ⟨it, p, t, de, e1, e0, e2, a1, a2, a3, a4, a5, a6, a7⟩ := lc_parts hc o h0 Z
        subst e1
        obtain ⟨tg, iter, ifs, ia⟩ := g'
        simp only at e2
        subst e2
        exact ss_asgLc (o.calm e0) o.nd hN hloc (sw_true hk hloc hs.1.2 hs.2) a1 a2 a3 a4 a5 a6 a7
      · cases h1
    · rw [if_neg hs] at h
      obtain ⟨hb, h⟩ := ite_none h
      obtain ⟨dl, h1, e2⟩ := Option.map_eq_some_iff.mp h
      subst e2
      have hsw : swapsWith (.ListComp elt gs scope p2) (some (.Name x px)) pos.line X.env = pure false := by
        show pure (X.env.blockKind == ScopeKind.function && X.env.kindOf x == some NameKind.local && px.line == p2.line && _) = pure false
        congr 1
        rw [Bool.and_eq_false_iff] at hb
        rcases hb with hb | hb
        · have : (X.env.kindOf x == some NameKind.local) = false := by
            unfold isLocal at hb
            show (List.lookup x X.env.scope.names == some NameKind.local) = false
            rw [o.sc]
            cases hq : List.lookup x C.sc.names with
            | none => rfl
            | some k =>
              rw [hq] at hb
              cases k <;> first | rfl | cases hb
          rw [this]
          simp
        · rw [hb]
          simp
      exact ss_asg (fun te hte => ps_set o.nd hN l1 hte hsw l2) (lc_ok hc o h1 Z)
  · obtain ⟨hb, h⟩ := ite_none h
    obtain ⟨de, h1, e2⟩ := Option.map_eq_some_iff.mp h
    subst e2
    exact ss_asg (fun te hte => ps_set o.nd hN l1 hte (swNo hb _ _) l2) (hc.E o h1 Z)
theorem kindL (o : OkX X C T W lev) {x : Str} (h : isLocal C x = true) : X.env.kindOf x = some .local := isLocal_ok o h
theorem blockK (o : OkX X C T W lev) (h : isFnK C.sc.kind = true) : X.env.blockKind = .function := by
  have e : X.env.scope.kind = .function := by
    rw [o.sc]
    cases hq : C.sc.kind with
    | function => rfl
    | _ => rw [hq] at h; cases h
  unfold Env.blockKind
  rw [e]
  rfl
theorem parE_ok {es : List Expr} (h : parE C es = true) : isFnK C.sc.kind = true ∧ C.hm = 0 ∧ es.any isStar = false ∧ es.all (foldedForSure 8) = false ∧ es.all (constantsAlone 8) = false := by
  simp only [parE, Bool.and_eq_true, Bool.not_eq_true', beq_iff_eq] at h
  obtain ⟨⟨⟨⟨h1, h2⟩, h3⟩, h4⟩, h5⟩ := h
  exact ⟨h1, h2, h3, h4, h5⟩
theorem parB_ok {x y : Str} {px py : Pos} (h : parB C x px py y = true) : isLocal C x = true ∧ isLocal C y = true ∧ (py.line == px.line) = true ∧ x ≠ y := by
  simp only [parB, Bool.and_eq_true, Bool.not_eq_true'] at h
  obtain ⟨⟨⟨h1, h2⟩, h3⟩, h4⟩ := h
  exact ⟨h1, h2, h3, fun e => by rw [e] at h4; simp at h4⟩
theorem parS_ok {c : Cmp} (hc : Sound c) (o : OkX X C T W lev) {ts es : List Expr} {k k2 : Nat} {p p2 pos : Pos} {d : DS} (h : parS c C ts es = some d) : PS X (.Assign [.Tuple ts k p] (.Tuple es k2 p2) pos) (tS (gX X T W Z) d) := by
  unfold parS at h
  split at h
  · obtain ⟨hk, h⟩ := ite_none h
    simp only [Bool.and_eq_true] at hk
    obtain ⟨i, hi, h⟩ := bind_some2 h
    obtain ⟨j, hj, h⟩ := bind_some2 h
    obtain ⟨da, h1, h⟩ := bind_some2 h
    obtain ⟨db, h2, e⟩ := Option.map_eq_some_iff.mp h
    subst e
    obtain ⟨a1, a2, a3, a4, a5⟩ := parE_ok hk.1
    obtain ⟨b1, b2, b3, b4⟩ := parB_ok hk.2
    exact ss_par2 (o.calm a2) o.nd (by rw [o.N]; exact idx_ok hi) (by rw [o.N]; exact idx_ok hj) (isLocal_ok o b1) (isLocal_ok o b2) (blockK o a1) b3 b4 a3 a4 a5 (fun Z => hc.E o h1 Z) (fun Z => hc.E o h2 Z)
  · obtain ⟨hk, h⟩ := ite_none h
    simp only [Bool.and_eq_true] at hk
    obtain ⟨i, hi, h⟩ := bind_some2 h
    obtain ⟨j, hj, h⟩ := bind_some2 h
    obtain ⟨l, hl, h⟩ := bind_some2 h
    obtain ⟨da, h1, h⟩ := bind_some2 h
    obtain ⟨db, h2, h⟩ := bind_some2 h
    obtain ⟨de, h3, e⟩ := Option.map_eq_some_iff.mp h
    subst e
    obtain ⟨a1, a2, a3, a4, a5⟩ := parE_ok hk.1
    obtain ⟨b1, b2, b3, b4⟩ := parB_ok hk.2.1
    obtain ⟨c1, c2, c3, c4⟩ := parB_ok hk.2.2.1
    obtain ⟨d1, d2, d3, d4⟩ := parB_ok hk.2.2.2
    exact ss_par3 (o.calm a2) o.nd (by rw [o.N]; exact idx_ok hi) (by rw [o.N]; exact idx_ok hj) (by rw [o.N]; exact idx_ok hl) (isLocal_ok o b1) (isLocal_ok o b2) (isLocal_ok o c2) (blockK o a1) b3 c3 b4 c4 d4 a3 a4 a5 (fun Z => hc.E o h1 Z) (fun Z => hc.E o h2 Z) (fun Z => hc.E o h3 Z)
  · cases h
theorem stepS_ok {c : Cmp} (hc : Sound c) (o : OkX X C T W lev) (hp : PassesOwn (model X.prog X.w) X.A X.env X.xe) {s : Stmt} {d : DS} (h : stepS c C s = some d) : PS X s (tS (gX X T W Z) d) := by
  unfold stepS at h
  split at h
  · cases h; exact ss_pass
  · cases h; exact ss_break
  · cases h; exact ss_cont
  · obtain ⟨hb, h⟩ := ite_none h
    obtain ⟨de, h1, e2⟩ := Option.map_eq_some_iff.mp h
    subst e2
    exact ss_drop (swNo hb _ _) (hc.E o h1 Z)
  · cases h; exact ss_retN
  · obtain ⟨de, h1, e2⟩ := Option.map_eq_some_iff.mp h
    subst e2
    exact ss_ret (hc.E o h1 Z)
  · obtain ⟨dt, h1, h⟩ := bind_some2 h
    obtain ⟨da, h2, h⟩ := bind_some2 h
    obtain ⟨db, h3, e2⟩ := Option.map_eq_some_iff.mp h
    subst e2
    exact ss_if (hc.T o h1 Z) (hc.Ss o hp h2 Z) (hc.Ss o hp h3 Z)
  · obtain ⟨dt, h1, h⟩ := bind_some2 h
    obtain ⟨db, h2, e2⟩ := Option.map_eq_some_iff.mp h
    subst e2
    exact ss_while hp (hc.T o h1 Z) (hc.Ss o hp h2 Z)
  · obtain ⟨hb, h⟩ := ite_none h
    obtain ⟨di, h1, h⟩ := bind_some2 h
    obtain ⟨q, h2, h⟩ := bind_some2 h
    obtain ⟨db, h3, e2⟩ := Option.map_eq_some_iff.mp h
    subst e2
    rw [Bool.or_eq_false_iff] at hb
    exact ss_for hp (o.calm (by simpa using hb.2)) (cI_ok o (fun e d he => hc.E o he Z) h1) (cP_ok o 4 h2) (hc.Ss o hp h3 Z) (fold_ok hb.1)
  · rename_i x px m j p2 p3 pos
    obtain ⟨hn, h⟩ := ite_none h
    simp only [Bool.and_eq_true, beq_iff_eq] at hn
    obtain ⟨hn0, hn⟩ := hn
    split at h
    · rename_i up hl
      obtain ⟨hmk, h⟩ := ite_none h
      cases h
      obtain ⟨Cx, h1, h2, _⟩ := o.g.exc x _ hl
      have h2 := h2 hmk
      obtain ⟨r1, r2, B, n1, n2, bm, r3, r4⟩ := h2.ok X rfl
      exact ss_raise (o.calm hn0) o.tk (L2N.pmk_own r3 r4 h1 r2 r1 (glB_ok o hn.1) (okName_ok hn.2).1) h1
    · cases h
  · exact asgN_ok hc o h
  · rename_i ts k p es k2 p2 pos
    by_cases hb : parN ts es = true
    · rw [if_pos hb] at h
      obtain ⟨q, h1, h⟩ := bind_some2 h
      obtain ⟨de, h2, e2⟩ := Option.map_eq_some_iff.mp h
      subst e2
      refine ss_pat (fun te g hte hg => ps_asg hte hg ?_ (swapped_none ?_) rfl) (hc.E o h2 Z) (cP_ok o 4 h1)
      · exact swNo (X := X) (e := .Tuple es k2 p2) rfl (some (.Tuple ts k p)) pos.line
      · simp only [parN, Bool.or_eq_true, Bool.not_eq_true'] at hb
        rcases hb with (hb | hb) | hb
        · exact .inl hb
        · exact .inr (.inl (by rw [isStar_eq]; exact hb))
        · exact .inr (.inr hb)
    · rw [if_neg hb] at h
      exact parS_ok hc o h
  · rename_i ts k p e pos hne
    obtain ⟨hb, h⟩ := ite_none h
    rw [Bool.or_eq_false_iff] at hb
    obtain ⟨q, h1, h⟩ := bind_some2 h
    obtain ⟨de, h2, e2⟩ := Option.map_eq_some_iff.mp h
    subst e2
    refine ss_pat (fun te g hte hg => ps_asg hte hg ?_ ?_ rfl) (hc.E o h2 Z) (cP_ok o 4 h1)
    · exact swNo (X := X) hb.1 (some (.Tuple ts k p)) pos.line
    · cases e <;> first | rfl | cases hb.2
  · rename_i x p0 k p1 e pos
    obtain ⟨hb, h⟩ := ite_none h
    rw [Bool.or_eq_false_iff] at hb
    obtain ⟨i, hi, h⟩ := bind_some2 h
    obtain ⟨dk, h1, h⟩ := bind_some2 h
    obtain ⟨de, h2, e2⟩ := Option.map_eq_some_iff.mp h
    subst e2
    refine ss_setL (fun te g hte hg => ps_asg hte hg (swNo (X := X) hb.1 (some (.Subscript (.Name x p0) k p1)) pos.line) ?_ rfl) (fun to ti t h1 h2 h3 => pg_sub h1 h2 h3 (fun v => ?_)) (slot_ok o hi) (hc.E o h1 Z) (hc.E o h2 Z)
    · cases e <;> rfl
    · cases k <;> first | rfl | cases hb.2
  · cases h
theorem cSs_ok {S : Stmt → Option DS} (hS : ∀ s d, S s = some d → PS X s (tS (gX X T W Z) d)) : ∀ {ss : List Stmt} {d : DS}, cSs S ss = some d → PSs X ss (tS (gX X T W Z) d)
  | [], d, h => by
    cases h
    exact ss_nil
  | s :: ss, d, h => by
    obtain ⟨d1, h1, h⟩ := bind_some2 h
    obtain ⟨d2, h2, e⟩ := Option.map_eq_some_iff.mp h
    subst e
    exact ss_cons (hS s d1 h1) (cSs_ok hS h2)
end
end SE
set_option Elab.async false
set_option linter.all false
set_option maxRecDepth 100000
set_option maxHeartbeats 2000000
namespace SE
open PySem L2
def comp : Nat → Cmp
  | 0 => ⟨fun _ _ => none, fun _ _ => none, fun _ _ => none, fun _ _ => none⟩
  | n + 1 => ⟨stepE (comp n), stepT (comp n), stepS (comp n), fun C => cSs (fun s => (comp n).S C s)⟩
theorem comp_sound : ∀ n, Sound (comp n)
  | 0 => ⟨fun _ h => (by cases h), fun _ h => (by cases h), fun _ _ h => (by cases h), fun _ _ h => by cases h⟩
  | n + 1 => ⟨fun o h Z => stepE_ok (comp_sound n) o h, fun o h Z => stepT_ok (comp_sound n) o h, fun o p h Z => stepS_ok (comp_sound n) o p h, fun o p h Z => cSs_ok (fun s d h => (comp_sound n).S o p h Z) h⟩
/-- a def's text -/
structure Df where
  N : List Str
  ps : List Str
  sc : Scope
  body : List Stmt
  mu : List Nat
def dfCC (f : Df) (gl : List (Str × GV)) (gd : Bool) : CC := ⟨f.N, f.sc, cellsOf f.sc, gl, f.mu, gd, 0, false⟩
def dfOk (f : Df) : Bool :=
  isFnK f.sc.kind && !f.sc.isCoroutine && !f.sc.isGenerator && decide f.N.Nodup && decide (f.N.take f.ps.length = f.ps) &&
  f.ps.all (fun x => match List.lookup x f.sc.names with
    | some .local => true
    | some .cell => true
    | _ => false) && f.sc.names.all fun y => match y.2 with
    | .free => false
    | _ => true
theorem dfOk_ok {f : Df} (h : dfOk f = true) : FnScope f.N f.ps f.sc := by
  simp only [dfOk, Bool.and_eq_true, Bool.not_eq_true', decide_eq_true_eq] at h
  obtain ⟨⟨⟨⟨⟨⟨h1, h2⟩, h3⟩, h4⟩, h5⟩, h6⟩, h7⟩ := h
  refine ⟨?_, h2, h3, h4, h5, fun x hx => ?_, fun y hy e => ?_⟩
  · cases hq : f.sc.kind with
    | function => rfl
    | _ => rw [hq] at h1; cases h1
  · have := List.all_eq_true.mp h6 x hx
    split at this
    · rename_i e; exact .inl e
    · rename_i e; exact .inr e
    · cases this
  · have := List.all_eq_true.mp h7 y hy
    rw [e] at this
    cases this
/-- a def's mirror -/
def mirror (f : Df) (gl : List (Str × GV)) (gd : Bool) : Option Fn := ((comp 60).Ss (dfCC f gl gd) f.body).map fun d => mkFn f.ps.length f.N.length d
/-- a def that its mirror is right of -/
theorem def_ok {P : Program} {w : World} {K : PySem.W.Frag} {mg : Str → Option Value} {base : Heap} {T : List (Addr × Str)} {gl : List (Str × GV)} {lev : Nat} {gd : Bool} {f : Addr} {name qual : Str} {params : Arguments} {dV kV doc pm cdv ct oc : Value} {an od : Option Addr} {osl : Array (Option Value)}
    {df : Df} {F : Fn} (g : GOk P w K mg base T gl lev) (lk : List.lookup f K = some { cls := oc, dict := od, data := Data.func (PySem.W.fnOf name qual params df.body df.sc dV kV doc pm an cdv ct), slots := osl })
    (hc : PySem.W.codeIn K cdv qual = true) (ok : dfOk df = true) (hm : mirror df gl gd = some F) :
    FnG P w K mg base T gd (lev + 1) f (PySem.W.fnOf name qual params df.body df.sc dV kV doc pm an cdv ct) df.ps F := by
  unfold mirror at hm
  obtain ⟨d, hd, e⟩ := Option.map_eq_some_iff.mp hm
  subst e
  have sc := dfOk_ok ok
  refine fnG_of lk hc sc fun A outer s H E Z hg hr => ?_
  have o : OkX (cxOf (L2N.CX P w) P w K mg base df.N qual df.sc f cdv A outer s H E) (dfCC df gl gd) T (fun c dd _ H => E c dd H) lev :=
    ⟨g, rfl, rfl, sc.nd, fun _ => rfl, (fun z => nomatch z), (fun z => nomatch z), L2N.takes_of rfl rfl rfl rfl, fun _ => hr, by have := hr.un; show (A.deeper (PyProof.Rows.envOfC qual df.sc s.heap.objs.size f cdv)).units + 66 < cLine; omega, fun z => hg z, fun x _ => rfl⟩
  exact (comp_sound 60).Ss o PassesOwn.leaving hd Z
end SE
set_option Elab.async false
set_option linter.all false
set_option maxRecDepth 100000
set_option maxHeartbeats 2000000
namespace SE
open PySem L2
def mutM (m : Str) : Bool := m = mAppend || m = mExtend || m = mInsert || m = mPop || m = Str.ofString "remove" || m = Str.ofString "reverse" || m = Str.ofString "update"
/-- the names that a block changes in place -/
def muS : Nat → List Stmt → List Str
  | 0, _ => []
  | _, [] => []
  | n + 1, s :: ss => (match s with
    | .Expr (.Call (.Attribute (.Name x _) m _) _ _ _) _ => if mutM m then [x] else []
    | .Assign [.Subscript (.Name x _) _ _] _ _ => [x]
    | .Assign [_] (.Call (.Attribute (.Name x _) m _) _ _ _) _ => if mutM m then [x] else []
    | .For _ _ b o _ => muS n b ++ muS n o
    | .While _ b o _ => muS n b ++ muS n o
    | .If _ b o _ => muS n b ++ muS n o
    | _ => []) ++ muS n ss
/-- the names of the comprehensions' own variables -/
def ownN (sc : Scope) : List Str := sc.names.filterMap fun (x, k) => match k with
  | .local => some x
  | .cell => some x
  | _ => none
mutual
def cvE : Nat → Expr → List Str
  | 0, _ => []
  | n + 1, e => match e with
    | .BoolOp _ es _ => cvEs n es
    | .BinOp a _ b _ => cvE n a ++ cvE n b
    | .UnaryOp _ a _ => cvE n a
    | .Lambda _ b _ _ => cvE n b
    | .IfExp a b c _ => cvE n a ++ cvE n b ++ cvE n c
    | .Dict ks vs _ => cvEs n (ks.filterMap id) ++ cvEs n vs
    | .Set es _ _ => cvEs n es
    | .ListComp a gs sc _ => ownN sc ++ cvE n a ++ cvEs n (gs.flatMap fun g => g.iter :: g.ifs)
    | .SetComp a gs sc _ => ownN sc ++ cvE n a ++ cvEs n (gs.flatMap fun g => g.iter :: g.ifs)
    | .DictComp k a gs sc _ => ownN sc ++ cvE n k ++ cvE n a ++ cvEs n (gs.flatMap fun g => g.iter :: g.ifs)
    | .Compare a _ bs _ => cvE n a ++ cvEs n bs
    | .Call f es ks _ => cvE n f ++ cvEs n es ++ cvEs n (ks.map (·.value))
    | .FormattedValue a _ _ _ => cvE n a
    | .JoinedStr es _ => cvEs n es
    | .Attribute a _ _ => cvE n a
    | .Subscript a b _ => cvE n a ++ cvE n b
    | .Starred a _ => cvE n a
    | .List es _ => cvEs n es
    | .Tuple es _ _ => cvEs n es
    | .Slice a b c _ => cvEs n ([a, b, c].filterMap id)
    | _ => []
def cvEs : Nat → List Expr → List Str
  | 0, _ => []
  | _, [] => []
  | n + 1, e :: es => cvE n e ++ cvEs n es
end
def cvS : Nat → List Stmt → List Str
  | 0, _ => []
  | _, [] => []
  | n + 1, s :: ss => (match s with
    | .Expr e _ => cvE n e
    | .Assign ts e _ => cvE n e ++ cvEs n ts
    | .AugAssign t _ e _ => cvE n t ++ cvE n e
    | .Return (some e) _ => cvE n e
    | .For _ e b o _ => cvE n e ++ cvS n b ++ cvS n o
    | .While e b o _ => cvE n e ++ cvS n b ++ cvS n o
    | .If e b o _ => cvE n e ++ cvS n b ++ cvS n o
    | _ => []) ++ cvS n ss
def dfOf (s : Stmt) : Df := match s with
  | .FunctionDef _ args body _ _ _ scope _ _ _ =>
    let ps := args.args.map (·.arg)
    let N := (ps ++ ownN scope ++ cvS 300 body).eraseDups
    ⟨N, ps, scope, body, ((muS 200 body).filterMap (idx N)).eraseDups⟩
  | _ => ⟨[], [], ⟨.module, [], false, false, []⟩, [], []⟩
def nmOf : Stmt → Str
  | .FunctionDef n _ _ _ _ _ _ _ _ _ => n
  | .ClassDef n _ _ _ _ _ _ _ _ _ _ => n
  | .Assign [.Name x _] _ _ => x
  | _ => Str.ofString "?"
end SE
set_option Elab.async false
set_option linter.all false
set_option maxRecDepth 100000
set_option maxHeartbeats 2000000
namespace SE
open PySem L2
abbrev blkP (X : Cx) (S : Shared) (H : Hp) (scope : Scope) (ce : PySem.Env) (fp : List Addr) (p : Addr × Obj) : Cx := (X.blk S H scope ce fp).tr [p] (fun _ _ => False)
theorem lc_coreH {X : Cx} {pins : List (Addr × Obj)} {s : Shared} {σ : L2.St} {H : Hp} {Q : VK} {elt tg iter : Expr} {ifs : List Expr} {scope : Scope} {own : List (Str × Nat)} {pos pos' : Pos} {wi : TI} {g : TG} {tt : TT} {te : TE}
    {use : Option (Value → Sem Unit)} {Qf : Value → Shared → Prop} {p : Addr × Obj} (hot : L2H.Hot1 X.A p) (hpn : p ∈ X.pn) (hN : X.N.Nodup) (I : L2.Inv X pins σ H s) (hi : L2H.PIH X tg iter wi) (ok : BlkOk X.N X.env.scope scope own)
    (hg : ∀ (s : Shared) (H : Hp) (C : Addr) (cl : List (Str × Addr)) (fp : List Addr), PG (X.blk s H scope (compEnvC scope cl C X.env) fp) tg g)
    (ht : ∀ (s : Shared) (H : Hp) (C : Addr) (cl : List (Str × Addr)) (fp : List Addr), PTs (X.blk s H scope (compEnvC scope cl C X.env) fp) ifs tt)
    (he : ∀ (s : Shared) (H : Hp) (C : Addr) (cl : List (Str × Addr)) (fp : List Addr), PE (X.blk s H scope (compEnvC scope cl C X.env) fp) elt te)
    (hs : ∀ x, foldedSetIterable iter X.env x = pure x) (h : tLc wi g tt te (own.map (·.2)) σ H Q)
    (hRR : ∀ (D C : Addr) (s' : Shared) (m : Str → Option Value) (H' : Hp), L2.Inv X pins σ H' s' → Q (V.ref D) H' → Heap.Ns s'.heap C m → FpOk X pins H' C → compPost (model X.prog X.w) X.A X.xe use Qf (Value.ref D) C (.ok .next) s') :
    wpAny (model X.prog X.w) X.A (comprehension (.ListComp elt [{ target := tg, iter := iter, ifs := ifs, is_async := 0 }] scope pos) scope X.env pos' (newList []) false (eval iter X.env) use) Qf X.xe s := by
  have hfree : ∀ y : Str × NameKind, y ∈ scope.names → y.2 = NameKind.free → ∃ c, X.env.cells.lookup y.1 = some c := fun y hy e => (ok.free y hy e).elim (fun k => I.ok.has y.1 (.inl k)) fun k => I.ok.has y.1 (.inr k)
  refine wpAny_comprehension_free rfl hs (closure_ok hfree) ok.kind (fun y hy e => by rw [ok.uniq y hy, e]) ?_
  refine thn (hi.run pins s σ H _ I h) fun xv s1 hx => thn hx fun itv s2 h2 => ?_
  obtain ⟨it, fp, tn, J, H2, e, I2, T, st2, f2, q⟩ := h2
  subst e
  refine wpAny_newObj_type (newEnv_comp ?_)
  have hDn := HOk.fresh I2.hok (Nat.le_refl s2.heap.objs.size)
  obtain ⟨W, ⟨m0, w0⟩, turn⟩ := q s2.heap.objs.size hDn
  have I3 := Inv.laid (t' := s2.toks) I2 (a := s2.heap.objs.size) (o := HO.lst []) (fun b o e => Heap.get?_push_of_some { cls := Value.type "list", data := Data.seq #[] } e) (Nat.le_refl _) ⟨Nat.zero_le sizeLine, [], 0, Paired.nil, Heap.get?_push_size s2.heap rfl⟩
  generalize hS3 : ({ heap := s2.heap.push { cls := Value.type "list", data := Data.seq #[] }, gens := s2.gens, drawn := s2.drawn, toks := s2.toks, os := s2.os } : Shared) = S3 at *
  have h3 : S3.heap = s2.heap.push { cls := Value.type "list", data := Data.seq #[] } := by rw [← hS3]
  have sz : ∀ b, b ∈ fp → b < s2.heap.objs.size := fun b hb => by
    obtain ⟨o, e, _⟩ := T.obj 0 s2.heap st2 b hb
    exact Heap.lt_size e
  have f3 : ∀ b, b ∈ fp → FpOk X pins (upd H2 s2.heap.objs.size (HO.lst [])) b ∧ b < S3.heap.objs.size := fun b hb => by
    have hlt := sz b hb
    refine ⟨⟨?_, (f2 b hb).2⟩, ?_⟩
    · rw [upd_ne (Nat.ne_of_lt hlt)]; exact (f2 b hb).1
    · rw [h3, Heap.size_push]; exact Nat.lt_succ_of_lt hlt
  have st3 := T.keep 0 s2.heap S3.heap st2 fun b _ o e => by rw [h3]; exact Heap.get?_push_of_some _ e
  have I4 := block_start I3 ok hN f3
  generalize hH3 : upd H2 s2.heap.objs.size (HO.lst []) = H3 at *
  generalize hcl : cellsFrom (S3.heap.objs.size + 1) scope.names (cloFrom X.env.cells scope.names []) = CLS at *
  have pg := hg S3 H3 S3.heap.objs.size CLS fp
  have pt := ht S3 H3 S3.heap.objs.size CLS fp
  have pe := he S3 H3 S3.heap.objs.size CLS fp
  have nfp : ∀ b, b ∈ fp → H3 b = none := fun b hb => (f3 b hb).1.1
  have keep4 : ∀ b o, S3.heap.get? b = some o → (pushCells (S3.heap.push { cls := Value.type "dict", data := Data.dict #[] }) scope.names).get? b = some o := fun b o e => pushCells_keeps scope.names _ b o (Heap.get?_push_of_some _ e)
  have st4 := T.keep 0 S3.heap _ st3 fun b _ o e => keep4 b o e
  have p3 := I3.pin p (List.mem_append_left _ hpn)
  have I4p : L2.Inv (X.blk S3 H3 scope (compEnvC scope CLS S3.heap.objs.size X.env) fp) [p] (wipe σ (own.map (·.2))) H3 { heap := pushCells (S3.heap.push { cls := Value.type "dict", data := Data.dict #[] }) scope.names, gens := S3.gens, drawn := S3.drawn, toks := S3.toks, os := S3.os } :=
    ⟨I4.ok, I4.os, I4.bare, I4.base, I4.loc, I4.cell, I4.free, I4.freeC, fun p' hp' => by
      have e : p' = p := by simpa using hp'
      subst e
      refine ⟨keep4 _ _ p3.1, p3.2.1, Nat.ne_of_lt (Heap.lt_size p3.1), fun z => ?_, p3.2.2.2.2⟩
      rcases List.mem_cons.mp (Inv.stkSub I3 _ z) with e | e
      · exact p3.2.2.1 e
      · exact p3.2.2.2.1 e, I4.hok, I4.len⟩
  have hot' : L2H.HotC (blkP X S3 H3 scope (compEnvC scope CLS S3.heap.objs.size X.env) fp p) := ⟨p, hot, List.mem_singleton.mpr rfl⟩
  have stat : ∀ {σ' : L2.St} {H' : Hp} {s' : Shared}, L2.Inv (X.blk S3 H3 scope (compEnvC scope CLS S3.heap.objs.size X.env) fp) [p] σ' H' s' → (∀ b, b ∈ fp → H' b = none) → ∀ b, b ∈ fp → FpOk (X.blk S3 H3 scope (compEnvC scope CLS S3.heap.objs.size X.env) fp) [p] H' b := fun I' hn b hb =>
    ⟨hn b hb, (I'.ok.exf b hb).1, I'.ok.exfs b hb, .inl hb, fun x c e => (I'.ok.exf b hb).2 x c e, fun p' hp' => by
      have e : p' = p := by simpa using hp'
      subst e
      exact (f3 b hb).1.2.2.2.2.2 p' (List.mem_append_left _ hpn)⟩
  have loop := compLoop_any (prog := X.prog) (w := X.w) (A := X.A) (R := compPost (model X.prog X.w) X.A X.xe use Qf (Value.ref s2.heap.objs.size) S3.heap.objs.size) (elt := elt) (target := tg) (iter := iter) (ifs := ifs) (scope := scope) (pos := pos) (it := Value.ref it) (acc := Value.ref s2.heap.objs.size) (env := compEnvC scope CLS S3.heap.objs.size X.env)
    (fun n s' => ∃ i H', L2.Inv (X.blk S3 H3 scope (compEnvC scope CLS S3.heap.objs.size X.env) fp) [p] (wipe σ (own.map (·.2))) H' s' ∧ tn i s'.heap ∧ (∀ b, b ∈ fp → H' b = none) ∧ W i n H')
    (fun n s5 a => by
      obtain ⟨i, H5, I5, st5, n5, w5⟩ := a
      have to : ∀ {σ' : L2.St} {H' : Hp} {s' : Shared}, L2.Inv (X.blk S3 H3 scope (compEnvC scope CLS S3.heap.objs.size X.env) fp) [p] σ' H' s' → L2.Inv (blkP X S3 H3 scope (compEnvC scope CLS S3.heap.objs.size X.env) fp p) [] σ' H' s' := fun J => ⟨⟨J.ok.mod, J.ok.kind, J.ok.glob, J.ok.blt, J.ok.above, J.ok.inj, J.ok.has, J.ok.cab, J.ok.hd, J.ok.frames, J.ok.stk, J.ok.exf, J.ok.bs, J.ok.bsz, J.ok.noex, J.ok.exfs, J.ok.funs, J.ok.frf⟩, J.os, J.bare, J.base, J.loc, J.cell, J.free, J.freeC, J.pin, J.hok, J.len⟩
      have fro : ∀ {σ' : L2.St} {H' : Hp} {s' : Shared}, L2.Inv (blkP X S3 H3 scope (compEnvC scope CLS S3.heap.objs.size X.env) fp p) [] σ' H' s' → L2.Inv (X.blk S3 H3 scope (compEnvC scope CLS S3.heap.objs.size X.env) fp) [p] σ' H' s' := fun J => ⟨⟨J.ok.mod, J.ok.kind, J.ok.glob, J.ok.blt, J.ok.above, J.ok.inj, J.ok.has, J.ok.cab, J.ok.hd, J.ok.frames, J.ok.stk, J.ok.exf, J.ok.bs, J.ok.bsz, J.ok.noex, J.ok.exfs, J.ok.funs, J.ok.frf⟩, J.os, J.bare, J.base, J.loc, J.cell, J.free, J.freeC, J.pin, J.hok, J.len⟩
      rcases turn i n H5 w5 with ⟨stop, qq⟩ | ⟨go, Nx, hNx, step⟩
      · have td := T.done (blkP X S3 H3 scope (compEnvC scope CLS S3.heap.objs.size X.env) fp p) rfl rfl rfl hot' i [] s5 (wipe σ (own.map (·.2))) H5 (fun _ _ => False) (to I5) (stat I5 n5) st5 stop
        refine thnF td fun r s6 x => ?_
        obtain ⟨hr, I6⟩ := x
        subst hr
        have I7 := Inv.call' I3 I6.os I6.base I6.hok I6.bare fun b hb => ⟨(f3 b hb).1.2.2.2.1, (f3 b hb).1.2.1, (f3 b hb).1.2.2.2.2.1, (f3 b hb).1.2.2.2.2.2⟩
        have nC := I6.free
        obtain ⟨m, hn, _⟩ := I6.loc
        exact hRR _ _ s6 m H5 I7 qq hn (Inv.fpOk I3 (Nat.le_refl _) nC)
      · have ti := T.item (blkP X S3 H3 scope (compEnvC scope CLS S3.heap.objs.size X.env) fp p) rfl rfl rfl hot' i [] s5 (wipe σ (own.map (·.2))) H5 (fun _ _ => False) (to I5) (stat I5 n5) st5 go
        refine thnF ti fun r s6 x => ?_
        obtain ⟨u, hr, h6⟩ := x
        subst hr
        refine thnF h6 fun _ s7 x1 => ?_
        obtain ⟨x, H7, I7, r7, y7, st7, n7⟩ := x1
        have I7 := fro I7
        have I7' := Inv.pinned I7 (stat I7 n7) (T.obj (i + 1) s7.heap st7)
        refine thnF (pg.run ([p] ++ pinsAt fp s7.heap) s7 _ H7 x u _ I7' r7 (step x H7 y7)) fun _ s8 x2 => ?_
        obtain ⟨σ8, H8, I8, hw8, q8⟩ := x2
        refine thnF (pt.run ([p] ++ pinsAt fp s7.heap) s8 σ8 H8 _ I8 q8) fun b s9 x3 => ?_
        obtain ⟨H9, I9, q9⟩ := x3
        have fin : ∀ {s' : Shared} {H' : Hp}, L2.Inv (X.blk S3 H3 scope (compEnvC scope CLS S3.heap.objs.size X.env) fp) ([p] ++ pinsAt fp s7.heap) σ8 H' s' → Nx H' → ∃ m, m < n ∧ ∃ i H', L2.Inv (X.blk S3 H3 scope (compEnvC scope CLS S3.heap.objs.size X.env) fp) [p] (wipe σ (own.map (·.2))) H' s' ∧ tn i s'.heap ∧ (∀ b, b ∈ fp → H' b = none) ∧ W i m H' := fun {s'} {H'} I' nx => by
          obtain ⟨m', hm, w'⟩ := hNx H' nx
          have pin' : ∀ b, b ∈ fp → ∀ o, s7.heap.get? b = some o → s'.heap.get? b = some o ∧ H' b = none := fun b hb o e => by
            have z := I'.pin (b, o) (List.mem_append_right _ (List.mem_append_right _ (mem_pinsAt hb e)))
            exact ⟨z.1, z.2.1⟩
          have hl : (wipe σ (own.map (·.2))).length = σ8.length := by rw [← hw8, wipe_length]
          refine ⟨m', hm, i + 1, H', Inv.weak (Inv.unpinned I') hl fun j v e => ?_, T.keep (i + 1) s7.heap s'.heap st7 fun b hb o e => (pin' b hb o e).1, fun b hb => ?_, w'⟩
          · rw [← hw8] at e
            exact (wipe_some e).1
          · obtain ⟨o, e, _⟩ := T.obj (i + 1) s7.heap st7 b hb
            exact (pin' b hb o e).2
        cases b with
        | false =>
          rw [if_neg (by simp)] at q9 ⊢
          exact fin I9 q9
        | true =>
          rw [if_pos rfl] at q9 ⊢
          refine thnF (pe.run ([p] ++ pinsAt fp s7.heap) s9 σ8 H9 _ I9 q9) fun z s10 x4 => ?_
          obtain ⟨yv, H10, I10, r10, acc, hD10, hz10, nx⟩ := x4
          exact app_ok (X := X.blk S3 H3 scope (compEnvC scope CLS S3.heap.objs.size X.env) fp) I10 hD10 hz10 r10 fun s11 I11 => fin I11 nx)
    m0 ⟨0, H3, I4p, st4, nfp, w0⟩
  exact codeAny_compStart_list loop (T.self X.A 0 _ _ _ st4 loop)
end SE
set_option Elab.async false
set_option linter.all false
set_option maxRecDepth 100000
set_option maxHeartbeats 2000000
namespace SE
open PySem L2
theorem PIH.imp {X : Cx} {tg e : Expr} {t t' : TI} (h : L2H.PIH X tg e t) (k : ∀ σ H Q, t' σ H Q → t σ H Q) : L2H.PIH X tg e t' := ⟨fun p s σ H R I q => h.run p s σ H R I (k σ H R q)⟩
theorem si_rng1H {X : Cx} {T : List (Addr × Str)} {W : WX} {Z : Addr → Prop} {tg e a : Expr} {da : DE} (h : ∀ ta, PA X [a] ta → L2H.PIH X tg e (L2.iRng1 ta)) (hs : ∀ b p, a ≠ .Starred b p) (ha : PE X a (tE (gX X T W Z) da)) : L2H.PIH X tg e (tI (gX X T W Z) (SE.iRng1 da)) := by
  refine PIH.imp (h _ (sr_cons hs ha sr_nil)) fun σ H Rr q => ?_
  obtain ⟨r, S, q⟩ := q
  refine ⟨r, S, ?_⟩
  have q := aft_bind q
  unfold rCons
  cases hx : da r with
  | bad => rw [hx] at q; exact q.elim
  | ex ee r1 => rw [hx] at q; exact q
  | ok x r1 =>
    rw [hx] at q
    rintro vs H1 E1 ⟨v, ws, e1, hv, hw⟩
    cases (show ws = [] from hw)
    subst e1
    have q : (match (der r1 x).bind asI with
      | some n => _
      | none => Out.bad).aft _ _ := q
    cases hd : (der r1 x).bind asI with
    | none => rw [hd] at q; exact q.elim
    | some n =>
      rw [hd] at q
      dsimp only at q
      obtain ⟨d, hd1, hd2⟩ := bind_some2 hd
      have ev := rpI_int (hv.der E1.sim hd1) hd2
      subst ev
      by_cases hb : -big62 ≤ n ∧ n < big62
      · rw [if_pos hb] at q
        exact ⟨n, rfl, hb.1, hb.2, q _ H1 E1 lkNone walk_rng⟩
      · rw [if_neg hb] at q; exact q.elim

theorem ps_setLcH {X : Cx} {i : Nat} {y : Str} {py : Pos} {elt tg iter : Expr} {ifs : List Expr} {scope : Scope} {own : List (Str × Nat)} {pos spos : Pos} {wi : TI} {g : TG} {tt : TT} {te : TE} {p : Addr × Obj} (hot : L2H.Hot1 X.A p) (hpn : p ∈ X.pn)
    (hN : X.N.Nodup) (hy : X.N[i]? = some y) (hyl : List.lookup y X.env.scope.names = some .local)
    (hsw : swapsWith (.ListComp elt [{ target := tg, iter := iter, ifs := ifs, is_async := 0 }] scope pos) (some (.Name y py)) spos.line X.env = pure true)
    (hi : L2H.PIH X tg iter wi) (ok : BlkOk X.N X.env.scope scope own)
    (hg : ∀ (s : Shared) (H : Hp) (C : Addr) (cl : List (Str × Addr)) (fp : List Addr), PG (X.blk s H scope (compEnvC scope cl C X.env) fp) tg g)
    (ht : ∀ (s : Shared) (H : Hp) (C : Addr) (cl : List (Str × Addr)) (fp : List Addr), PTs (X.blk s H scope (compEnvC scope cl C X.env) fp) ifs tt)
    (he : ∀ (s : Shared) (H : Hp) (C : Addr) (cl : List (Str × Addr)) (fp : List Addr), PE (X.blk s H scope (compEnvC scope cl C X.env) fp) elt te)
    (hs : ∀ x, foldedSetIterable iter X.env x = pure x) :
    PS X (.Assign [.Name y py] (.ListComp elt [{ target := tg, iter := iter, ifs := ifs, is_async := 0 }] scope pos) spos) (tAsg (tLc wi g tt te (own.map (·.2))) (gName i)) := by
  refine ⟨fun pins s σ H D I h => ?_⟩
  rw [exec_Assign_Name_used y py (.ListComp elt [{ target := tg, iter := iter, ifs := ifs, is_async := 0 }] scope pos) spos hsw]
  refine wpAny_bind (wpAny_standAt (wpAny_bind ?_))
  have h := h
  refine wpAny_bind (thn (lc_coreH hot hpn hN I hi ok hg ht he hs h fun L C s' m H' I' q hn f => ?_) fun x s' hq => wpAny_pure (wpAny_pure hq))
  refine id (wpAny_assign_Name (store_ok2 I' hN hy (.inl hyl) (show RelV (V.ref L) (Value.ref L) from rfl) (fun s2 I2 x => ?_) (.inr hyl)))
  obtain ⟨a, sb, ha⟩ := x
  obtain ⟨f0, f1, f2, f3, f4, f5⟩ := f
  have haC : C ≠ a := ha.elim (fun z => by rw [z]; exact f1) fun z e => f4 y a z e.symm
  exact ⟨m, Heap.Ns.sameBut hn sb haC, fun h3 sb3 => ⟨σ.set i (some (V.ref L)), H', Inv.turned I2 (fun b o hb e => (sb3.2 b hb).trans e) f0 f1 f3 f4 f5, q⟩⟩
theorem ss_asgLcH {X : Cx} {T : List (Addr × Str)} {W : WX} {Z : Addr → Prop} {i : Nat} {y : Str} {py : Pos} {elt tg iter : Expr} {ifs : List Expr} {scope : Scope} {own : List (Str × Nat)} {pos spos : Pos} {it : DI} {p : Pat} {t : DT} {d : DE} {m : Bool} (hot : L2H.HotC X)
    (hN : X.N.Nodup) (hy : X.N[i]? = some y) (hyl : List.lookup y X.env.scope.names = some .local)
    (hsw : swapsWith (.ListComp elt [{ target := tg, iter := iter, ifs := ifs, is_async := 0 }] scope pos) (some (.Name y py)) spos.line X.env = pure true)
    (hi : L2H.PIH X tg iter (tI (gX X T W Z) it)) (ok : BlkOk X.N X.env.scope scope own) (hp : ∀ j ∈ pslots p, j ∈ own.map (·.2))
    (hg : ∀ (s : Shared) (H : Hp) (C : Addr) (cl : List (Str × Addr)) (fp : List Addr) (Z' : Addr → Prop), PG (X.blk s H scope (compEnvC scope cl C X.env) fp) tg (tG (gB X T Z') p))
    (ht : ∀ (s : Shared) (H : Hp) (C : Addr) (cl : List (Str × Addr)) (fp : List Addr) (Z' : Addr → Prop), PTs (X.blk s H scope (compEnvC scope cl C X.env) fp) ifs (tT (gB X T Z') t))
    (he : ∀ (s : Shared) (H : Hp) (C : Addr) (cl : List (Str × Addr)) (fp : List Addr) (Z' : Addr → Prop), PE (X.blk s H scope (compEnvC scope cl C X.env) fp) elt (tE (gB X T Z') d))
    (hf : ∀ x, foldedSetIterable iter X.env x = pure x) :
    PS X (.Assign [.Name y py] (.ListComp elt [{ target := tg, iter := iter, ifs := ifs, is_async := 0 }] scope pos) spos) (tS (gX X T W Z) (sAsg m i (dLc (own.map (·.2)) it p t d))) := by
  obtain ⟨q, h1, h2⟩ := hot
  exact PS.len (ps_setLcH h1 h2 hN hy hyl hsw hi ok (fun s H C cl fp => PG.ex (hg s H C cl fp)) (fun s H C cl fp => PTs.ex (ht s H C cl fp)) (fun s H C cl fp => PE.ex (he s H C cl fp)) hf)
    (asg_read fun σ H Q l q => lc_read σ H Q _ hp (fun j hj => by rw [l]; exact le_len ok.ix j hj) q)
/-- range(n) -/
def cIH (cE : Expr → Option DE) (C : CC) : Expr → Option DI
  | .Call (.Name x _) [a] [] _ => if (x = bRange ∧ glB C.sc x = true ∧ notStar a = true) then (match List.lookup x C.gl with
    | some .blt => (cE a).map iRng1
    | _ => none) else none
  | _ => none
theorem cIH_ok {X : Cx} {C : CC} {T : List (Addr × Str)} {W : WX} {Z : Addr → Prop} {lev : Nat} (o : OkX X C T W lev) {cE : Expr → Option DE} (hE : ∀ e d, cE e = some d → PE X e (tE (gX X T W Z) d)) {tg e : Expr} {d : DI} (h : cIH cE C e = some d) : L2H.PIH X tg e (tI (gX X T W Z) d) := by
  unfold cIH at h
  split at h
  · rename_i x p a pos
    obtain ⟨⟨e1, hg, e3⟩, h⟩ := ite_none h
    split at h
    · rename_i hl
      obtain ⟨da, hd, e⟩ := Option.map_eq_some_iff.mp h
      subst e
      subst e1
      have g1 := glB_ok o hg
      have g2 := o.g.blt _ hl
      exact si_rng1H (fun ta hta => L2H.pi_range1H g1 g2 hta (by rw [star_cons (notStar_ok e3)]; rfl)) (notStar_ok e3) (hE a da hd)
    · cases h
  · cases h
def cLcH (c : Cmp) (C : CC) : Expr → Option DE
  | .ListComp elt [g] scope _ =>
    if (C.hm == 1 && (blkC C.N C.sc scope (ownOf C.N scope) && g.is_async == 0 && !isSet g.iter)) = true then
      (cIH (c.E C) C g.iter).bind fun it => (cP (blkCC C scope) 4 g.target).bind fun p =>
        if (pslots p).all (fun j => ((ownIx C.N scope).contains j)) = true then
          (match g.ifs with
            | [] => some tYes
            | [f] => c.T (blkCC C scope) f
            | _ => none).bind fun t => (c.E (blkCC C scope) elt).map fun d => dLc (ownIx C.N scope) it p t d
        else none
    else none
  | _ => none
/-- the parts of a comprehension, an exception being handled -/
theorem lc_partsH {c : Cmp} (hc : Sound c) {X : Cx} {C : CC} {T : List (Addr × Str)} {W : WX} {lev : Nat} (o : OkX X C T W lev) {elt : Expr} {g : Comprehension} {scope : Scope} {pos : Pos} {d : DE} (h : cLcH c C (.ListComp elt [g] scope pos) = some d) (Z : Addr → Prop) :
    ∃ it p t de, d = dLc (ownIx C.N scope) it p t de ∧ C.hm = 1 ∧ g.is_async = 0 ∧ L2H.PIH X g.target g.iter (tI (gX X T W Z) it) ∧ BlkOk X.N X.env.scope scope (ownOf C.N scope) ∧ (∀ j ∈ pslots p, j ∈ ownIx C.N scope) ∧
      (∀ (s : Shared) (H : Hp) (Cl : Addr) (cl : List (Str × Addr)) (fp : List Addr) (Z' : Addr → Prop), PG (X.blk s H scope (compEnvC scope cl Cl X.env) fp) g.target (tG (gB X T Z') p)) ∧
      (∀ (s : Shared) (H : Hp) (Cl : Addr) (cl : List (Str × Addr)) (fp : List Addr) (Z' : Addr → Prop), PTs (X.blk s H scope (compEnvC scope cl Cl X.env) fp) g.ifs (tT (gB X T Z') t)) ∧
      (∀ (s : Shared) (H : Hp) (Cl : Addr) (cl : List (Str × Addr)) (fp : List Addr) (Z' : Addr → Prop), PE (X.blk s H scope (compEnvC scope cl Cl X.env) fp) elt (tE (gB X T Z') de)) ∧ ∀ x, foldedSetIterable g.iter X.env x = pure x := by
  unfold cLcH at h
  obtain ⟨hk, h⟩ := ite_none h
  simp only [Bool.and_eq_true, beq_iff_eq, Bool.not_eq_true'] at hk
  obtain ⟨hk0, ⟨hk1, hk2⟩, hk3⟩ := hk
  obtain ⟨it, h1, h⟩ := bind_some2 h
  obtain ⟨p, h2, h⟩ := bind_some2 h
  obtain ⟨hp, h⟩ := ite_none h
  obtain ⟨t, h3, h⟩ := bind_some2 h
  obtain ⟨de, h4, e⟩ := Option.map_eq_some_iff.mp h
  have bo : BlkOk C.N C.sc scope (ownOf C.N scope) := blkOk_by hk1
  have ob := fun s H Cl cl fp => okBlk o (scope := scope) bo.uniq s H Cl cl fp
  refine ⟨it, p, t, de, e.symm, hk0, hk2, cIH_ok o (fun e d he => hc.E o he Z) h1, by rw [o.N, o.sc]; exact bo, fun j hj => ?_, fun s H Cl cl fp Z' => cP_ok (ob s H Cl cl fp) 4 h2, fun s H Cl cl fp Z' => ?_, fun s H Cl cl fp Z' => hc.E (ob s H Cl cl fp) h4 Z', fold_ok hk3⟩
  · have := List.all_eq_true.mp hp j hj
    simpa using this
  · split at h3
    · rename_i e0
      rw [e0]
      cases h3
      exact sts_nil
    · rename_i f e0
      rw [e0]
      exact sts_one (hc.T (ob s H Cl cl fp) h3 Z')
    · cases h3
end SE
set_option Elab.async false
set_option linter.all false
set_option maxRecDepth 100000
set_option maxHeartbeats 2000000
namespace SE
open PySem L2
def hotAsg (C : CC) (x : Str) (px : Pos) (e : Expr) : Option DS :=
  if (C.hm == 1 && locB C x) = true then (idx C.N x).bind fun i => match e with
    | .ListComp elt gs scope pos => if swB C x px pos scope = true then (cLcH (comp 60) C e).map (sAsg (C.mu.contains i) i) else none
    | _ => none
  else none
def cHotS (C : CC) (s : Stmt) : Option DS := match s with
  | .Assign [.Name x px] (.ListComp a b c d) _ => hotAsg C x px (.ListComp a b c d)
  | s => (comp 60).S C s
section
variable {X : Cx} {C : CC} {T : List (Addr × Str)} {W : WX} {lev : Nat} {Z : Addr → Prop}
theorem hotAsg_ok (o : OkX X C T W lev) {x : Str} {px pos : Pos} {e : Expr} {d : DS} (h : hotAsg C x px e = some d) : PS X (.Assign [.Name x px] e pos) (tS (gX X T W Z) d) := by
  have hc := comp_sound 60
  unfold hotAsg at h
  obtain ⟨hl, h⟩ := ite_none h
  simp only [Bool.and_eq_true, beq_iff_eq] at hl
  obtain ⟨i, hi, h⟩ := bind_some2 h
  have hN : X.N[i]? = some x := by rw [o.N]; exact idx_ok hi
  split at h
  · rename_i elt gs scope p2
    obtain ⟨hs, h⟩ := ite_none h
    obtain ⟨dl, h1, e2⟩ := Option.map_eq_some_iff.mp h
    subst e2
    simp only [swB, Bool.and_eq_true, Bool.not_eq_true'] at hs
    have hloc := isLocal_ok o hs.1.1.2
    have hk : X.env.scope.kind = .function := by
      have := hs.1.1.1
      rw [o.sc]
      cases hq : C.sc.kind with
      | function => rfl
      | _ => rw [hq] at this; cases this
    have h0 := h1
    unfold cLcH at h1
    split at h1
    · rename_i elt' g' scope' pos' heq
      cases heq
      obtain ⟨it, p, t, de, e1, e0, e2, a1, a2, a3, a4, a5, a6, a7⟩ := lc_partsH hc o h0 Z
      subst e1
      obtain ⟨tg, iter, ifs, ia⟩ := g'
      simp only at e2
      subst e2
      exact ss_asgLcH (o.hot hl.1) o.nd hN hloc (sw_true hk hloc hs.1.2 hs.2) a1 a2 a3 a4 a5 a6 a7
    · cases h1
  · cases h
theorem hotS_ok (o : OkX X C T W lev) (hp : PassesOwn (model X.prog X.w) X.A X.env X.xe) {s : Stmt} {d : DS} (h : cHotS C s = some d) : PS X s (tS (gX X T W Z) d) := by
  unfold cHotS at h
  split at h
  · exact hotAsg_ok o h
  · exact (comp_sound 60).S o hp h Z
end
def bIsi : Str := Str.ofString "isinstance"
def isC (C : CC) (en : Str) : Expr → Option Str
  | .Call (.Name i _) [.Name e _, .Name c _] [] _ => if (i = bIsi ∧ e = en ∧ glB C.sc i = true ∧ glB C.sc c = true ∧ okName c = true ∧ isBlt C i = true) then (match List.lookup c C.gl with
    | some (.exc _) => some c
    | _ => none) else none
  | _ => none
theorem isC_ok {X : Cx} {C : CC} {T : List (Addr × Str)} {W : WX} {lev : Nat} {a D : Addr} {oe : Obj} {pn : List (Addr × Obj)} {en : Str} {ie : Nat} {up : List Str} (o : OkX (X.suite a ((a, oe) :: pn)) C T W lev) (hie : X.N[ie]? = some en) (hve : Vis X.env.scope en) (hoe : okName en = true)
    (hx : ExcC X.K D) (hr : ∀ y uq, List.lookup y C.gl = some (.exc uq) → ∃ C', X.mg y = some (.ref C') ∧ PySem.W.kitOne X.K (.ref D) (.ref C') = some (up.contains y)) (zn : L2.Zc (Value.ref D) none oe) (hf : ∃ vs, oe.data = Data.fields vs) {e : Expr} {c : Str} (h : isC C en e = some c) :
    PE (X.suite a ((a, oe) :: pn)) e (fun σ H Q => σ[ie]? = some (some (.ref a)) ∧ Q (.bl (up.contains c)) H) := by
  unfold isC at h
  split at h
  · rename_i i p1 e' p2 c' p3 p4
    obtain ⟨⟨e1, e2, h1, h2, h3, h4⟩, h⟩ := ite_none h
    split at h
    · rename_i uq hl
      cases h
      subst e1 e2
      obtain ⟨C', m1, m2⟩ := hr c uq hl
      have hce := pe_var (X := X.suite a ((a, oe) :: pn)) (pos := p2) hie hve (okName_ok hoe).1 (okName_ok hoe).2.1
      have hcc := pe_glob (X := X.suite a ((a, oe) :: pn)) (pos := p3) (v := V.ref C') (glB_ok o h2) m1 rfl (okName_ok h3).1
      have hcall := pe_callB (p := p1) (pos := p4) (L2.call_isE hx zn hf) (glB_ok o h1) (isBlt_ok o h4).2 (by decide +kernel) (pa_cons hce (pa_cons hcc pa_nil rfl) rfl) (by decide +kernel) (by decide +kernel) rfl rfl
      refine PE.imp hcall fun σ H Q q => ⟨V.ref a, q.1, _, _, _, rfl, fun u hu => hu, m2, q.2⟩
    · cases h
  · cases h
end SE
set_option Elab.async false
set_option linter.all false
set_option maxRecDepth 100000
set_option maxHeartbeats 2000000
namespace SE
open PySem L2
def kindF (gl : List (Str × GV)) (tk : List Str → Option Str) (c : Str) : Option Str := match List.lookup c gl with
  | some (.exc up) => tk up
  | _ => none
/-- the suite's value -/
def toldRun (d : DS) (n ik : Nat) (cs up : List Str) : Option Str :=
  match d ((List.replicate n Sl.un).set ik (.va false (.list (cs.map fun c => .bool (up.contains c))))) with
  | .rt x r1 => match der r1 x with
    | some (.tuple [.str k]) => some k
    | _ => none
  | _ => none
def toldCC (df : Df) (gl : List (Str × GV)) : CC := ⟨df.N, df.sc, cellsOf df.sc, gl, df.mu, false, 1, false⟩
def isExc (gl : List (Str × GV)) (x : Str) : Bool := match List.lookup x gl with
  | some (.exc _) => true
  | _ => false
def toldR (df : Df) (gl : List (Str × GV)) : Option (Str × (List Str → Option Str)) := match df.ps, df.body with
  | [a], [.Try [.Return (some (.Tuple [.Constant (.str w) _ _, .Call (.Name a' _) [] [] _] _ _)) _] [.ExceptHandler (some (.Name rv _)) (some en) (.Assign [.Name kn _] (.List calls _) _ :: rest) _] [] [] _] =>
    if a' = a ∧ okName a = true ∧ glB df.sc rv = true ∧ okName rv = true ∧ isExc gl rv = true ∧ okName en = true ∧ isLocal (toldCC df gl) en = true ∧ locB (toldCC df gl) kn = true ∧ kn ≠ en then
      (idx df.N en).bind fun ie => (idx df.N kn).bind fun ik => (calls.mapM (isC (toldCC df gl) en)).bind fun cs => if cs.length ≤ lim then
        (cSs (cHotS (toldCC df gl)) rest).map fun d => (w, fun up => if up.contains rv = true then toldRun d df.N.length ik cs up else none) else none
    else none
  | _, _ => none
theorem takes0N {X : Cx} : L2N.Takes X fun _ _ _ _ => False := fun u s' x => by
  obtain ⟨a, B, sI, pins, σ, H, cls, d, h⟩ := x
  exact h.2.2.2.2.2.2.2.2.elim
theorem isExc_ok {gl : List (Str × GV)} {x : Str} (h : isExc gl x = true) : ∃ up, List.lookup x gl = some (.exc up) := by
  unfold isExc at h
  split at h
  · rename_i up e; exact ⟨up, e⟩
  · cases h
theorem isCs_ok {X : Cx} {C : CC} {T : List (Addr × Str)} {W : WX} {lev : Nat} {a D : Addr} {oe : Obj} {pn : List (Addr × Obj)} {en : Str} {ie : Nat} {up : List Str} (o : OkX (X.suite a ((a, oe) :: pn)) C T W lev) (hie : X.N[ie]? = some en) (hve : Vis X.env.scope en) (hoe : okName en = true)
    (hx : ExcC X.K D) (hr : ∀ y uq, List.lookup y C.gl = some (.exc uq) → ∃ C', X.mg y = some (.ref C') ∧ PySem.W.kitOne X.K (.ref D) (.ref C') = some (up.contains y)) (zn : L2.Zc (Value.ref D) none oe) (hf : ∃ vs, oe.data = Data.fields vs) : ∀ {es : List Expr} {cs : List Str}, es.mapM (isC C en) = some cs →
    PA (X.suite a ((a, oe) :: pn)) es (fun σ H Q => σ[ie]? = some (some (.ref a)) ∧ Q (cs.map fun c => .bl (up.contains c)) H)
  | [], cs, h => by
    cases h
    exact PA.imp pa_nil fun σ H Q q => q.2
  | e :: es, cs, h => by
    obtain ⟨c, cs', h1, h2, e2⟩ := mapM_cons h
    subst e2
    have ns : notStar e = true := by
      unfold isC at h1
      split at h1
      · rfl
      · cases h1
    exact PA.imp (pa_cons (isC_ok o hie hve hoe hx hr zn hf h1) (isCs_ok o hie hve hoe hx hr zn hf h2) (star_cons (notStar_ok ns))) fun σ H Q q => ⟨q.1, q.1, q.2⟩
theorem resR_der {K : PySem.W.Frag} {T : List (Addr × Str)} {Z : Addr → Prop} {σ : L2.St} {H0 H : Hp} {r : Env} {x : R} {v : V} {ds : List D} (S : SimZ K T Z r σ H) (h : ResR K T Z σ H0 r H x v) (e : der r x = some (.tuple ds)) : RpI K (MuZ Z r σ) H (.tuple ds) v := by
  cases x with
  | va d => cases e; exact Rp.inp h
  | nw d =>
    cases e
    obtain ⟨a, e1, e2, e3, e4⟩ := h
    exact e4.elim
  | sl i => exact Holds.der (x := .sl i) S h e
theorem told_suite {X : Cx} {gl : List (Str × GV)} {T : List (Addr × Str)} {lev : Nat} {df : Df} {a D : Addr} {oe : Obj} {pn : List (Addr × Obj)} {en kn : Str} {ie ik : Nat} {up cs : List Str} {calls : List Expr} {rest : List Stmt} {d : DS} {k : Str} {kp lp ap : Pos}
    (o : OkX (X.suite a ((a, oe) :: pn)) (toldCC df gl) T noW lev) (hie : X.N[ie]? = some en) (hik : X.N[ik]? = some kn) (hve : Vis X.env.scope en) (hoe : okName en = true) (hlk : locB (toldCC df gl) kn = true)
    (hx : ExcC X.K D) (hr : ∀ y uq, List.lookup y gl = some (.exc uq) → ∃ C', X.mg y = some (.ref C') ∧ PySem.W.kitOne X.K (.ref D) (.ref C') = some (up.contains y)) (zn : L2.Zc (Value.ref D) none oe) (hf : ∃ vs, oe.data = Data.fields vs)
    (hcs : calls.mapM (isC (toldCC df gl) en) = some cs) (hl : cs.length ≤ lim) (hd : cSs (cHotS (toldCC df gl)) rest = some d) (hk : toldRun d df.N.length ik cs up = some k) :
    PSs (X.suite a ((a, oe) :: pn)) (.Assign [.Name kn kp] (.List calls lp) ap :: rest) (fun E σ H => σ[ie]? = some (some (.ref a)) ∧ σ.length = df.N.length ∧ LamX.Tabs T H ∧ ∀ p H2, Lv T H H2 → SqT X.K H2 p [.str k] → E.rt (.ref p) H2) := by
  obtain ⟨l1, l2⟩ := loc_ok o hlk
  have h1 := ps_set (pos := ap) (pos' := kp) (i := ik) o.nd hik l1 (pe_lst (pos := lp) (isCs_ok o hie hve hoe hx hr zn hf hcs)) (swNo rfl _ _) l2
  have h2 := cSs_ok (X := X.suite a ((a, oe) :: pn)) (T := T) (W := noW) (Z := fun _ => False) (fun s d h => hotS_ok o (fun e s h => h.elim) h) hd
  refine PSs.imp (pss_cons h1 h2) fun E σ H q => ?_
  obtain ⟨q1, q2, q3, q4⟩ := q
  refine ⟨q1, by rw [List.length_map, ← lim_eq]; exact hl, fun p hp => ?_⟩
  have hn : ∀ (i : Nat) (s : Sl), (List.replicate df.N.length Sl.un)[i]? = some s → s = Sl.un := fun (i : Nat) (s : Sl) e => by
    rw [List.getElem?_replicate] at e
    split at e
    · cases e; rfl
    · cases e
  have S0 : SimZ X.K T (fun _ => False) (List.replicate df.N.length Sl.un) σ H :=
    ⟨by rw [List.length_replicate, q2], fun i p d e => (by cases hn i _ e), fun i p l d e => (by cases hn i _ e), fun i j p q l m d e a h => (by cases hn i _ h), fun a z => z.elim, fun a z => z.elim, q3⟩
  have ex : Ext H (upd H p (.lst (cs.map fun c => .bl (up.contains c)))) := Ext.new hp
  have S1 := S0.ext ex
  have hno : ∀ {b : Addr}, ¬ MuZ (fun _ => False) (List.replicate df.N.length Sl.un) σ b := fun {b} z => by
    rcases z with ⟨i, l, m, d, h1, h2⟩ | z
    · cases hn i _ h1
    · exact z
  have rl : ∀ cs : List Str, RpL X.K (MuZ (fun _ => False) (List.replicate df.N.length Sl.un) σ) (upd H p (.lst (cs.map fun c => .bl (up.contains c)))) (cs.map fun c => PyData.bool (up.contains c)) (cs.map fun c => V.bl (up.contains c)) := fun cs' => by
    generalize upd H p (.lst (cs'.map fun c => .bl (up.contains c))) = H1
    induction cs' with
    | nil => exact RpL.nil
    | cons c cs' ih => exact RpL.cons (by simp only [Rp]) ih
  have rp : Rp X.K (MuZ (fun _ => False) (List.replicate df.N.length Sl.un) σ) (upd H p (.lst (cs.map fun c => .bl (up.contains c)))) (.list (cs.map fun c => .bool (up.contains c))) (.ref p) := by
    simp only [Rp]
    exact ⟨p, _, rfl, .inl ⟨.inl upd_same, hno⟩, rl cs⟩
  have hik' : ik < df.N.length := by
    have := (List.getElem?_eq_some_iff.mp hik).1
    have e : X.N = df.N := o.N
    rwa [e] at this
  have hst : store ik (.va false (.list (cs.map fun c => .bool (up.contains c)))) (List.replicate df.N.length Sl.un) = some ((List.replicate df.N.length Sl.un).set ik (.va false (.list (cs.map fun c => .bool (up.contains c))))) := by
    unfold store
    rw [List.getElem?_replicate, if_pos hik']
  have E1 := store_va S1 rp hst
  refine ⟨_, E1.sim, ?_⟩
  unfold toldRun at hk
  split at hk
  · rename_i x r1 heq
    rw [heq]
    intro v σ' H' E2 R2
    split at hk
    · rename_i k' hdr
      cases hk
      have hv := resR_der E2.sim R2 hdr
      obtain ⟨p', vs, e1, sq, rl'⟩ := hv
      subst e1
      simp only [RpL, Rp] at rl'
      obtain ⟨v1, r', e2, e3, e4⟩ := rl'
      subst e2 e3 e4
      have hob : ∀ a o, H a = some o → (∀ ps, o ≠ .tbl ps) → H' a = some o := fun a o e n => E2.ob a o (ex a o e) n fun z => by
        obtain ⟨i, l, m, d, h1, h2⟩ := z
        rcases getSet h1 with ⟨_, h, _⟩ | ⟨_, h⟩
        · cases h
        · cases hn i _ h
      exact q4 p' H' ⟨E2.sim.tabs, hob, fun a e => ex.dom (E2.dom a e)⟩ sq
    · cases hk
  · cases hk
end SE
set_option Elab.async false
set_option linter.all false
set_option maxRecDepth 100000
set_option maxHeartbeats 2000000
namespace SE
open PySem L2
theorem kindF_ok {gl : List (Str × GV)} {tk : List Str → Option Str} {c k : Str} (h : kindF gl tk c = some k) : ∃ up, List.lookup c gl = some (.exc up) ∧ tk up = some k := by
  unfold kindF at h
  split at h
  · rename_i up e; exact ⟨up, e, h⟩
  · cases h
theorem told_givesN {X : Cx} {gl : List (Str × GV)} {T : List (Addr × Str)} {lev : Nat} {df : Df} {w x a q : Str} {tk : List Str → Option Str} {g : Addr} {cdg : Value} (hps : df.ps = [a]) (hp : toldR df gl = some (w, tk)) (ok : dfOk df = true) (gg : GOk X.prog X.w X.K X.mg X.base T gl lev) :
    GivesToN X df.N x df.sc g cdg df.body a q (TToldN T X.K X.mg w (kindF gl tk)) := by
  intro f c' s H Q tl act hr hc h
  have sc := dfOk_ok ok
  unfold toldR at hp
  rw [hps] at hp
  split at hp
  · rename_i a0 w' p1 p2 a' p3 p4 p5 p6 p7 rv p8 en kn kp calls lp ap rest p9 p10 e1 e2
    cases e1
    obtain ⟨⟨ea, g1, g2, g3, g4, g5, g6, g7, g8⟩, hp⟩ := ite_none hp
    obtain ⟨ie, hie, hp⟩ := bind_some2 hp
    obtain ⟨ik, hik, hp⟩ := bind_some2 hp
    obtain ⟨cs, hcs, hp⟩ := bind_some2 hp
    obtain ⟨hl, hp⟩ := ite_none hp
    obtain ⟨d, hd, hp⟩ := Option.map_eq_some_iff.mp hp
    cases hp
    subst ea
    obtain ⟨urv, hrv⟩ := isExc_ok g4
    obtain ⟨R, mR, _, _, _⟩ := gg.exc rv urv hrv
    have glrv : List.lookup rv df.sc.names = some NameKind.globalImplicit := by
      unfold glB at g2
      split at g2
      · assumption
      · cases g2
    have locen : List.lookup en df.sc.names = some NameKind.local := by
      unfold isLocal toldCC at g6
      dsimp only at g6
      split at g6
      · assumption
      · cases g6
    have hN := idx_ok hie
    rw [e2]
    have tsE : ∃ ts : Addr → Value → Option Addr → TS, ts = (fun a cls d' D σ H => ∃ c up k, List.lookup c gl = some (.exc up) ∧ X.mg c = some cls ∧ d' = none ∧ (if up.contains rv = true then toldRun d df.N.length ik cs up else none) = some k ∧ LamX.Tabs T H ∧ (σ.length = df.N.length → σ[ie]? = some (some (V.ref a))) ∧ ∀ p H2, Lv T H H2 → SqT X.K H2 p [.str k] → D.rt (.ref p) H2) := ⟨_, rfl⟩
    obtain ⟨ts, hts⟩ := tsE
    have tbE : ∃ tb : WX → TS, tb = fun W D σ H1 => ∃ Ech : XK, (∀ cls d' σ' H', Ech cls d' H' → W cls d' σ' H') ∧ σ[0]? = some (some (V.ref f)) ∧ H1 c' = some (LamX.CodeO c' q) ∧ tl Ech H1 (fun v H' => [V.str w, v].length ≤ sizeLine ∧ ∀ p, H' p = none → D.rt (.ref p) (upd H' p (HO.tup [V.str w, v]))) := ⟨_, rfl⟩
    obtain ⟨tb, htb⟩ := tbE
    refine ⟨fun D σ H1 => tb (wAs X.K (.ref R) ie ts (fun _ _ _ _ => False) D) D σ H1, ?_, ?_⟩
    · refine pss_one (L2N.ps_try_as (tb := tb) (ts := ts) (X := (cxOf C8.CX0 X.prog X.w X.K X.mg X.base df.N x df.sc g cdg X.A X.stack s H C8.E0).nox) rfl rfl sc.nd hN locen ⟨glrv, (okName_ok g3).1, .inl mR⟩ takes0N (fun W pn xe tk' po => ⟨fun pins s' σ H' D I h' => ?_⟩) fun a1 oe cls d' pn zn fl => ⟨fun pins s' σ H' D I h' => ?_⟩)
      · rw [htb] at h'
        obtain ⟨Ech, hW, h1, h2, h3⟩ := h'
        have hpe := act W pn xe Ech p3 p4 tk' hW
        have hq := pss_one (ps_ret (pos := p7) (pe_tup (pos := p6) (x1 := p5) (pa_cons (pe_str (x := w) (j := p1) (pos := p2)) (pa_cons hpe pa_nil rfl) rfl)))
        exact hq.run pins s' σ H' D I ⟨h1, h2, h3⟩
      · rw [hts] at h'
        obtain ⟨c, up, k, h1, h2, h3, h4, h5, h6, h7⟩ := h'
        subst h3
        obtain ⟨C, m1, x1, x2, x3⟩ := gg.exc c up h1
        rw [h2] at m1
        cases m1
        have o : OkX ((cxOf C8.CX0 X.prog X.w X.K X.mg X.base df.N x df.sc g cdg X.A X.stack s H C8.E0).nox.suite a1 ((a1, oe) :: pn)) (toldCC df gl) T noW lev :=
          ⟨gg, rfl, rfl, sc.nd, (fun z => nomatch z), fun _ => ⟨(a1, oe), ⟨rfl, fl.choose, fl.choose_spec, zn.2.2 _ fl.choose_spec⟩, List.mem_cons_self⟩, (fun z => nomatch z), takesW, (fun z => nomatch z), by have := hr.un; show (X.A.deeper (PyProof.Rows.envOfC x df.sc s.heap.objs.size g cdg)).units + 66 < cLine; omega, (fun z => nomatch z), fun x _ => rfl⟩
        by_cases hu : up.contains rv = true
        · rw [if_pos hu] at h4
          have hs := told_suite (kp := kp) (lp := lp) (ap := ap) o hN (idx_ok hik) (.inl locen) g5 g7 x2 (fun y uq hy => by
            obtain ⟨C', z1, z2, _⟩ := x3 y uq hy
            exact ⟨C', z1, z2⟩) ⟨zn.1, zn.2.1⟩ fl hcs hl hd h4
          exact hs.run pins s' σ H' D I ⟨h6 I.len, I.len, h5, h7⟩
        · rw [if_neg hu] at h4; cases h4
    · rw [htb]
      refine ⟨_, fun cls d' σ' H' he => ?_, ?_, hc, h⟩
      · obtain ⟨c, k, h2, h3, h4, h5, h6⟩ := he
        obtain ⟨up, h1, h4⟩ := kindF_ok h4
        obtain ⟨C, m1, x1, x2, x3⟩ := gg.exc c up h1
        rw [h2] at m1
        cases m1
        obtain ⟨C', z1, _, z2⟩ := x3 rv urv hrv
        rw [mR] at z1
        cases z1
        refine ⟨_, z2, fun hb a1 ha => by rw [hts]; exact ⟨c, up, k, h1, h2, h3, h4, h5, fun hl => by rw [List.length_set] at hl; exact List.getElem?_set_self (by rw [hl]; exact (List.getElem?_eq_some_iff.mp hN).1), h6⟩, fun hb => ?_⟩
        · rw [hb] at h4
          cases h4
      · rfl
  · cases hp
end SE
set_option Elab.async false
set_option linter.all false
set_option maxRecDepth 100000
set_option maxHeartbeats 2000000
namespace SE
open PySem L2 LamX
theorem law_callG {P : Program} {w : World} {K : PySem.W.Frag} {mg mb : Str → Option Value} {CX : CXT} {k : Nat} {fa a : Addr} {cs : List (Addr × Addr)} {fd : FuncData} {x : Str} {sp : Sp} {s₁ : Shared} {vs : List Value} {ns : List Int}
    (KX : K.In s₁.heap) (hns : s₁.heap.Ns mainGlobals mg) (hb : s₁.heap.Ns builtinsNs mb) (hbb : ∀ x, x ≠ Str.ofString "__name__" → mb x = bootBuiltins x) (hlim : s₁.heap.NoLimit) (hg : s₁.gens = #[])
    (hT : ∀ p : Addr × Addr, p ∈ cs → s₁.heap.get? p.2 = some { cls := Value.none, data := Data.fields #[] }) (nT : ∀ p : Addr × Addr, p ∈ cs → List.lookup p.2 K = none) (C : ∀ p : Addr × Addr, p ∈ cs → PySem.W.CodeHd s₁.heap p.1 p.2)
    (hbm : ∃ bm ob, mg (Str.ofString "__builtins__") = some (Value.ref bm) ∧ bm ≠ builtinsNs ∧ s₁.heap.get? bm = some ob ∧ ob.cls = Value.type "module" ∧ ob.dict = some builtinsNs ∧ ob.data = Data.plain)
    (ha : s₁.heap.get? a = some { cls := Value.type "list", data := Data.seq vs.toArray }) (hi : PyProof.Rows.IntsAre vs ns) (hl : ns.length ≤ sizeLine) (hr : Room k callerA)
    (F : ∀ base : Heap, K.In base → base.Ns mainGlobals mg → (∀ p : Addr × Addr, p ∈ cs → TabB base mg p.1 p.2) → ∀ (A : Around) (outer : List PySem.Env) (s : Shared) (H : Hp) (args : Args) (us : List Value) (vs : List V) (Q : VK) (E : XK), A.guards = some [] → Room k A → Env0 P w K mg base A outer s H → BindsTo s fd args ([x].zip us) → Vals vs us → sp vs H Q E →
      codeAny (model P w) A (Code.call (Value.ref fa) args) (CR CX outer P w H s Q E) s)
    (hbind : ∀ (s : Shared) (u : Value), BindsTo s fd { pos := [u] } [(x, u)])
    (hsp : ∀ H : Hp, (∀ p : Addr × Addr, p ∈ cs → H p.2 = some (HO.tbl #[])) → SqL K H a (ns.map V.int) → sp [V.ref a] H (fun v _ => v = V.bl true) fun _ _ _ => False)
    (hCX : ∀ (H : Hp) (e : Value) (s' : Shared), CX [] H s₁ (fun _ _ _ => False) e s' → False) :
    codeAny (model P w) callerA (Code.call (Value.ref fa) { pos := [Value.ref a] }) (fun r s' => r = Except.ok (Flow.ret (Value.bool true)) ∧ OldK s₁.heap s'.heap ∧ s'.os = s₁.os ∧ PyProof.Rows.AllBare s'.gens) s₁ := by
  have rv := vals_ints hi
  have lenV := PyProof.Rows.IntsAre.length hi
  have isT : ∀ b, b ∈ cs.map (·.2) → s₁.heap.get? b = some { cls := Value.none, data := Data.fields #[] } := fun b hb => by
    obtain ⟨p, hp, e⟩ := List.mem_map.mp hb
    rw [← e]
    exact hT p hp
  have aT : ¬ a ∈ cs.map (·.2) := fun z => by
    have q := isT a z
    rw [ha] at q
    cases q
  have memT : ∀ p, p ∈ cs → p.2 ∈ cs.map (·.2) := fun p hp => List.mem_map.mpr ⟨p, hp, rfl⟩
  have core : ∀ H : Hp, (∀ p : Addr × Addr, p ∈ cs → H p.2 = some (HO.tbl #[])) → (∀ b, H b = none ∨ b ∈ cs.map (·.2) ∨ ∃ ob xs, H b = some (HO.frz ob (HO.lst xs))) → SqL K H a (ns.map V.int) → HOk P w H s₁.heap → (∀ b, H b ≠ none → b = a ∨ b ∈ cs.map (·.2)) → (H a ≠ none → List.lookup a K = none) →
      codeAny (model P w) callerA (Code.call (Value.ref fa) { pos := [Value.ref a] }) (fun r s' => r = Except.ok (Flow.ret (Value.bool true)) ∧ OldK s₁.heap s'.heap ∧ s'.os = s₁.os ∧ PyProof.Rows.AllBare s'.gens) s₁ := fun H hH hO hS hok hA hK => by
    have base_of : ∀ {b : Addr} {o : Obj}, s₁.heap.get? b = some o → H b = none → (hidT s₁.heap H).get? b = some o := fun {b} {o} e n => hidT_get e n
    have noD : ∀ {b : Addr} {o : Obj}, s₁.heap.get? b = some o → (∀ (vs : Array Value) (n : Nat), o.data ≠ Data.seq vs n) → o.data ≠ Data.fields #[] → H b = none := fun {b} {o} e h1 h2 => by
      cases q : H b with
      | none => rfl
      | some u =>
        rcases hA b (by rw [q]; simp) with e' | e'
        · rw [e', ha] at e
          cases e
          exact (h1 vs.toArray 0 rfl).elim
        · rw [isT b e'] at e
          cases e
          exact (h2 rfl).elim
    have nsK : ∀ {b : Addr} {m : Str → Option Value}, s₁.heap.Ns b m → (hidT s₁.heap H).Ns b m := fun {b} {m} x => by
      obtain ⟨o, es, ep, e, d, r⟩ := x
      exact ⟨o, es, ep, base_of e (noD e (fun vs n z => by rw [d] at z; cases z) fun z => by rw [d] at z; cases z), d, r⟩
    have hKb : K.In (hidT s₁.heap H) := fun b o e => base_of (KX b o e) (by
      cases q : H b with
      | none => rfl
      | some u =>
        rcases hA b (by rw [q]; simp) with e' | e'
        · rw [e'] at q e
          rw [hK (by rw [q]; simp)] at e
          cases e
        · obtain ⟨p, hp, ep⟩ := List.mem_map.mp e'
          rw [← ep, nT p hp] at e
          cases e)
    have hM : Mod K mg (hidT s₁.heap H) := ⟨hKb, nsK hns, ⟨mb, nsK hb, hbb⟩, by
      obtain ⟨mc, h1, h2⟩ := hlim
      exact ⟨mc, nsK h1, h2⟩⟩
    have TB : ∀ p : Addr × Addr, p ∈ cs → TabB (hidT s₁.heap H) mg p.1 p.2 := fun p hp => by
      have hTp := hT p hp
      refine ⟨?_, ?_, ?_⟩
      · obtain ⟨o, us, file, tf, flags, tg, inF, text, tt, e1, r1, r2, r3, r4, r5, r6, r7, r8, hne⟩ := C p hp
        refine ⟨o, us, file, tf, flags, tg, inF, text, tt, base_of e1 (noD e1 (fun vs n z => by rw [r2] at z; cases z) fun z => ?_), r1, r2, r3, r4, r5, r6, r7, r8, hne⟩
        rw [r2] at z
        cases z
        cases r3
      · obtain ⟨bm, ob, b1, b2, b3, b4, b5, b6⟩ := hbm
        have nG : bm ≠ mainGlobals := fun q => by
          obtain ⟨o, es, ep, e, hd, _⟩ := hns
          rw [q, e] at b3
          cases b3
          rw [hd] at b6
          cases b6
        have nP : bm ≠ p.2 := fun q => by
          rw [q, hTp] at b3
          cases b3
          cases b6
        exact ⟨bm, ob, b1, b2, nG, nP, base_of b3 (noD b3 (fun vs n z => by rw [b6] at z; cases z) fun z => by rw [b6] at z; cases z), b4, b5, b6⟩
      · intro z
        obtain ⟨o, es, ep, e, hd, _⟩ := hns
        rw [z, hTp] at e
        cases e
        cases hd
    have e0 : Env0 P w K mg (hidT s₁.heap H) callerA [] s₁ H := ⟨rfl, hM, fun b o e => of_hidT e, Nat.le_of_eq (hidT_size s₁.heap H), trivial, fun b hb => (by cases hb), hok, PyProof.Rows.AllBare.of_eq hg⟩
    refine codeAny_mono (F (hidT s₁.heap H) hKb (nsK hns) TB callerA [] s₁ H { pos := [Value.ref a] } [Value.ref a] [V.ref a] (fun v _ => v = V.bl true) (fun _ _ _ => False) rfl hr e0 (hbind s₁ (Value.ref a)) (Paired.cons (show RelV (V.ref a) (Value.ref a) from rfl) Paired.nil) (hsp H hH hS)) fun r s' h => ?_
    cases r with
    | error e => exact (hCX H e s' h).elim
    | ok fl =>
      cases fl with
      | ret u =>
        obtain ⟨v, H', os, bare, un, hok', r', q⟩ := h
        have q' : v = V.bl true := q
        subst q'
        have r2 : u = Value.bool true := r'
        subst r2
        have key : ∀ b o, ¬ b ∈ cs.map (·.2) → s₁.heap.get? b = some o → s'.heap.get? b = some o := fun b o nb e => by
          cases q : H b with
          | none => exact un.keep b o e q (fun z => by cases z) (fun z => by cases z)
          | some u =>
            rcases hO b with z | z | ⟨ob, xs, z⟩
            · rw [q] at z; cases z
            · exact (nb z).elim
            · have z2 := un.frzs b ob (HO.lst xs) z
              obtain ⟨e1, _⟩ := hok b _ z
              obtain ⟨e2, _⟩ := hok' b _ z2
              rw [e] at e1
              cases e1
              exact e2
        have grown : ∀ p, p ∈ cs → ∃ more, s'.heap.get? p.2 = some { cls := Value.none, data := Data.fields (#[] ++ more) } := fun p hp => by
          obtain ⟨more, z⟩ := un.tbls p.2 #[] (hH p hp)
          exact ⟨more, hok' p.2 _ z⟩
        refine ⟨rfl, ⟨fun b o e => ?_, fun b o e => ?_⟩, os, bare⟩
        · by_cases hb : b ∈ cs.map (·.2)
          · obtain ⟨p, hp, ep⟩ := List.mem_map.mp hb
            obtain ⟨more, hm⟩ := grown p hp
            rw [← ep] at e ⊢
            rw [hT p hp] at e
            cases e
            exact .inr (.inl ⟨Heap.TableAt.isCodeTable (PySem.W.CodeHd.tab (C p hp) (hT p hp)), rfl, #[], more, rfl, hm⟩)
          · exact .inl (key b o hb e)
        · by_cases hb : b ∈ cs.map (·.2)
          · obtain ⟨p, hp, ep⟩ := List.mem_map.mp hb
            obtain ⟨more, hm⟩ := grown p hp
            exact ⟨_, ep ▸ hm⟩
          · exact ⟨o, key b o hb e⟩
      | _ => exact h.elim
  cases hk : List.lookup a K with
  | none =>
    refine core (fun b => if b = a then some (HO.frz { cls := Value.type "list", data := Data.seq vs.toArray } (HO.lst (ns.map V.int))) else if b ∈ cs.map (·.2) then some (HO.tbl #[]) else none) (fun p hp => ?_) (fun b => ?_) (.inl (.inr ⟨_, if_pos rfl⟩)) (fun b u z => ?_) (fun b z => ?_) fun _ => hk
    · exact (if_neg fun z => aT (by rw [← z]; exact memT p hp)).trans (if_pos (memT p hp))
    · by_cases hb : b = a
      · exact .inr (.inr ⟨_, _, if_pos hb⟩)
      · by_cases hb2 : b ∈ cs.map (·.2)
        · exact .inr (.inl hb2)
        · exact .inl ((if_neg hb).trans (if_neg hb2))
    · by_cases hb : b = a
      · have z' := (if_pos hb).symm.trans z
        cases z'
        rw [hb]
        exact ⟨ha, by rw [List.length_map]; exact hl, vs, 0, rv, ha⟩
      · have z1 := (if_neg hb).symm.trans z
        by_cases hb2 : b ∈ cs.map (·.2)
        · have z' := (if_pos hb2).symm.trans z1
          cases z'
          exact isT b hb2
        · have z' := (if_neg hb2).symm.trans z1
          cases z'
    · by_cases hb : b = a
      · exact .inl hb
      · by_cases hb2 : b ∈ cs.map (·.2)
        · exact .inr hb2
        · exact (z ((if_neg hb).trans (if_neg hb2))).elim
  | some o =>
    have e := KX a o hk
    rw [ha] at e
    cases e
    refine core (fun b => if b ∈ cs.map (·.2) then some (HO.tbl #[]) else none) (fun p hp => if_pos (memT p hp)) (fun b => ?_) (.inr ⟨_, vs.toArray, 0, hk, rfl, rfl, rfl, by simpa [lenV] using hl, rv⟩) (fun b u z => ?_) (fun b z => ?_) fun z => (z (if_neg aT)).elim
    · by_cases hb : b ∈ cs.map (·.2)
      · exact .inr (.inl hb)
      · exact .inl (if_neg hb)
    · by_cases hb : b ∈ cs.map (·.2)
      · have z' := (if_pos hb).symm.trans z
        cases z'
        exact isT b hb
      · have z' := (if_neg hb).symm.trans z
        cases z'
    · by_cases hb : b ∈ cs.map (·.2)
      · exact .inr hb
      · exact (z (if_neg hb)).elim
end SE
set_option Elab.async false
set_option linter.all false
set_option maxRecDepth 100000
set_option maxHeartbeats 2000000
namespace SE
open PySem L2 LamX
def LawAtG (l : PySem.W.OpenLaw) (w : World) (K : PySem.W.Frag) (k n : Nat) (x : Str) (mg : Str → Option Value) (fa : Addr) (h : Heap) : Prop :=
  ∃ (fd : FuncData) (cs : List (Addr × Addr)) (T : List (Addr × Str)) (F : Fn), (∀ p : Addr × Addr, p ∈ cs → h.get? p.2 = some { cls := Value.none, data := Data.fields #[] }) ∧ (∀ p : Addr × Addr, p ∈ cs → List.lookup p.2 K = none) ∧ (∀ p : Addr × Addr, p ∈ cs → PySem.W.CodeHd h p.1 p.2) ∧
    (∀ (s : Shared) (u : Value), BindsTo s fd { pos := [u] } [(x, u)]) ∧ (∀ t : Addr × Str, t ∈ T → ∃ p : Addr × Addr, p ∈ cs ∧ p.2 = t.1) ∧
    (∀ ns : List Int, ns.length ≤ n → ∃ r, F [.va false (.list (ns.map PyData.int))] = .ok (.va (.bool true)) r) ∧
    ∀ base : Heap, K.In base → base.Ns mainGlobals mg → (∀ p : Addr × Addr, p ∈ cs → TabB base mg p.1 p.2) → FnG l.prog w K mg base T true k fa fd [x] F
theorem walk_ofGE {l : PySem.W.OpenLaw} {n k : Nat} {q : Program} {loose : List Str} {XP : (Str → Option Value) → Heap → Prop} {YP : World → Heap → Prop} {d : DefRec} {x : Str} (hn : l.most = some n) (hn2 : n ≤ sizeLine) (hdf : d.params.defaults = []) (hr : Room k callerA)
    (F : ∀ (w : World) (mg : Str → Option Value) (fa : Addr) (h : Heap), YP w h → h.Ns mainGlobals mg → mg d.name = some (Value.ref fa) → ∃ K, K.In h ∧ LawAtG l w K k n x mg fa h) :
    PySem.W.WalkO q loose XP YP l.row.toRowW d [] fun f vs => call f vs := by
  refine Att.attach_callB hn hdf fun w s₀ s₁ mg mb fa o pm cd doc a vs ns G Y ho hd hcd hmg hobj hints hlen hbits hg => ?_
  obtain ⟨K, KX, fd, cs, T, Fm, hT, nT, C, hb, hTc, hsp, hF⟩ := F w mg fa s₁.heap Y G.T.g hmg
  refine law_callG (CX := L2N.CX l.prog w) (sp := spF K T mg Fm 1) KX G.T.g G.T.b G.T.builtins G.T.nolimit hg hT nT C G.T.bmain hobj hints (Nat.le_trans hlen hn2) hr (fun base b1 b2 b3 A outer s H args us vs Q E hgd hr e0 hbd hv hs => (hF base b1 b2 b3).run A outer s H args us vs Q E (fun _ => hgd) hr e0 hbd hv hs) hb (fun H hH hS => ?_) fun H e s' z => ?_
  · have hno : ∀ {b : Addr}, ¬ MuZ (fun _ => False) [Sl.va false (.list (ns.map PyData.int))] [some (V.ref a)] b := fun {b} z => by
      rcases z with ⟨i, p, m, d, h1, h2⟩ | z
      · cases i with
        | zero => cases h1
        | succ i => cases h1
      · exact z
    have rp : Rp K (MuZ (fun _ => False) [Sl.va false (.list (ns.map PyData.int))] [some (V.ref a)]) H (.list (ns.map PyData.int)) (.ref a) := by
      simp only [Rp]
      exact ⟨a, _, rfl, hS.elim (fun z => .inl ⟨z, hno⟩) .inr, RpL.of_ints⟩
    have S : SimZ K T (fun _ => False) [Sl.va false (.list (ns.map PyData.int))] [some (V.ref a)] H := by
      refine ⟨rfl, fun i p d e => ?_, fun i p l d e => ?_, fun i j p q l m d e a h => ?_, fun a z => z.elim, fun a z => z.elim, fun t ht => ?_⟩
      · cases i with
        | zero => cases e; exact ⟨_, rfl, rp⟩
        | succ i => cases e
      · cases i with
        | zero => cases e
        | succ i => cases e
      · cases i with
        | zero => cases h
        | succ i => cases h
      · obtain ⟨p, hp, e⟩ := hTc t ht
        refine ⟨#[], by rw [← e]; exact hH p hp, ?_, fun pos cv z => ?_⟩
        · trivial
        · cases z
    obtain ⟨r, hr⟩ := hsp ns hlen
    refine ⟨_, _, S, rfl, ?_⟩
    rw [hr]
    intro v H' E1 R1
    simp only [ResR, Rp] at R1
    exact R1
  · obtain ⟨a, B, H', cls, d, _, _, _, _, _, _, _, z⟩ := z
    exact z
end SE
set_option Elab.async false
set_option linter.all false
set_option maxRecDepth 100000
set_option maxHeartbeats 2000000
namespace SE
open PySem L2
section
variable {P : Program} {w : World} {K : PySem.W.Frag} {mg : Str → Option Value} {base : Heap} {T : List (Addr × Str)} {gl : List (Str × GV)} {lev : Nat} {x : Str}
theorem lookup_cons {α : Type} {x y : Str} {a b : α} {l : List (Str × α)} (h : List.lookup y ((x, a) :: l) = some b) : (y = x ∧ a = b) ∨ List.lookup y l = some b := by
  unfold List.lookup at h
  cases e : y == x with
  | true =>
    rw [e] at h
    exact .inl ⟨by simpa using e, Option.some.inj h⟩
  | false =>
    rw [e] at h
    exact .inr h
theorem gok_nil : GOk P w K mg base T [] 0 := ⟨fun _ _ h => (by cases h), fun _ _ _ _ h => (by cases h), fun _ h => (by cases h), fun _ _ h => (by cases h), fun _ _ _ h => (by cases h)⟩
theorem GOk.up (g : GOk P w K mg base T gl lev) {lev' : Nat} (h : lev ≤ lev') : GOk P w K mg base T gl lev' :=
  ⟨g.con, fun x np F gd e => by
    obtain ⟨k, f, fd, ps, a, r⟩ := g.fn x np F gd e
    exact ⟨k, f, fd, ps, Nat.le_trans a h, r⟩, g.blt, g.exc, g.told⟩
/-- one name more, no class -/
theorem GOk.add (g : GOk P w K mg base T gl lev) {a : GV} (hc : ∀ d, a = .con d → ∃ v u, mg x = some u ∧ RelV v u ∧ ∀ (M : Addr → Prop) (H : Hp), Rp K M H d v)
    (hf : ∀ np F gd, a = .fn np F gd → ∃ k f fd ps, k ≤ lev ∧ mg x = some (.ref f) ∧ PySem.W.keepIn K (.ref f) = true ∧ Binds K fd ps [] ∧ ps.length = np ∧ FnG P w K mg base T gd k f fd ps F) (hb : a = .blt → mg x = none) (he : ∀ up, a ≠ .exc up)
    (ht : ∀ w' kf, a = .told w' kf → ∃ (g : Addr) (a : Str) (pg : Arguments) (bg : List Stmt) (sg : Scope) (dV kV doc pm : Value) (an : Option Addr) (cdv ct oc : Value) (od : Option Addr) (osl : Array (Option Value)) (Ng : List Str), mg x = some (.ref g) ∧ PySem.W.keepIn K (.ref g) = true ∧
      List.lookup g K = some { cls := oc, dict := od, data := Data.func (PySem.W.fnOf x x pg bg sg dV kV doc pm an cdv ct), slots := osl } ∧ PySem.W.codeIn K cdv x = true ∧ Binds K (PySem.W.fnOf x x pg bg sg dV kV doc pm an cdv ct) [a] [] ∧ FnScope Ng [a] sg ∧ Ng[0]? = some a ∧ Vis sg a ∧
      (a == Str.ofString "__debug__") = false ∧ (a == Str.ofString "__classdict__") = false ∧ ∀ X : Cx, X.prog = P → X.w = w → X.K = K → X.mg = mg → X.base = base → ∀ q, GivesToN X Ng x sg g cdv bg a q (TToldN T K mg w' kf)) : GOk P w K mg base T ((x, a) :: gl) lev := by
  refine ⟨fun y d e => ?_, fun y np F gd e => ?_, fun y e => ?_, fun y up e => ?_, fun y w' kf e => ?_⟩
  · rcases lookup_cons e with ⟨z1, z⟩ | z
    · rw [z1]; exact hc d z
    · exact g.con y d z
  · rcases lookup_cons e with ⟨z1, z⟩ | z
    · rw [z1]; exact hf np F gd z
    · exact g.fn y np F gd z
  · rcases lookup_cons e with ⟨z1, z⟩ | z
    · rw [z1]; exact hb z
    · exact g.blt y z
  · rcases lookup_cons e with ⟨_, z⟩ | z
    · exact (he up z).elim
    · obtain ⟨C, a1, a2, a3, a4⟩ := g.exc y up z
      refine ⟨C, a1, a2, a3, fun y' uq e' => ?_⟩
      rcases lookup_cons e' with ⟨_, z'⟩ | z'
      · exact (he uq z').elim
      · exact a4 y' uq z'
  · rcases lookup_cons e with ⟨z1, z⟩ | z
    · rw [z1]; exact ht w' kf z
    · exact g.told y w' kf z
theorem gok_blt (g : GOk P w K mg base T gl lev) (h : mg x = none) : GOk P w K mg base T ((x, .blt) :: gl) lev :=
  g.add (fun _ z => by cases z) (fun _ _ _ z => by cases z) (fun _ => h) (fun _ z => by cases z) fun _ _ z => by cases z
theorem gok_int (g : GOk P w K mg base T gl lev) {i : Int} {t : Tok} (h : mg x = some (.int i t)) : GOk P w K mg base T ((x, .con (.int i)) :: gl) lev :=
  g.add (fun d z => by cases z; exact ⟨.int i, _, h, ⟨t, rfl⟩, fun M H => by simp only [Rp]⟩) (fun _ _ _ z => by cases z) (fun z => by cases z) (fun _ z => by cases z) fun _ _ z => by cases z
theorem gok_fn (g : GOk P w K mg base T gl lev) {f : Addr} {fd : FuncData} {params : Arguments} {df : Df} {F : Fn} {gd : Bool} (D : FunD K x x params df.body df.sc [] [] f fd) (h : mg x = some (.ref f)) (ok : dfOk df = true) (hm : mirror df gl gd = some F) (hb : Binds K fd df.ps []) :
    GOk P w K mg base T ((x, .fn df.ps.length F gd) :: gl) (lev + 1) := by
  obtain ⟨oc, od, dV, kV, doc, pm, an, cdv, ct, osl, e1, e2, e3, _, _⟩ := D.ex
  subst e1
  exact (g.up (Nat.le_succ lev)).add (fun d z => by cases z) (fun np F' gd' z => by cases z; exact ⟨lev + 1, f, _, df.ps, Nat.le_refl _, h, D.kp, hb, rfl, def_ok g e2 e3 ok hm⟩) (fun z => by cases z) (fun _ z => by cases z) fun _ _ z => by cases z
theorem gok_told (g : GOk P w K mg base T gl lev) {f : Addr} {fd : FuncData} {params : Arguments} {df : Df} {a w' : Str} {tk : List Str → Option Str} (D : FunD K x x params df.body df.sc [] [] f fd) (h : mg x = some (.ref f)) (ok : dfOk df = true) (hps : df.ps = [a]) (ha : okName a = true)
    (hm : toldR df gl = some (w', tk)) (hb : Binds K fd [a] []) : GOk P w K mg base T ((x, .told w' (kindF gl tk)) :: gl) lev := by
  obtain ⟨oc, od, dV, kV, doc, pm, an, cdv, ct, osl, e1, e2, e3, _, _⟩ := D.ex
  subst e1
  have sc := dfOk_ok ok
  rw [hps] at sc
  have h0 : df.N[0]? = some a := by
    have := sc.pre
    cases hn : df.N with
    | nil => rw [hn] at this; cases this
    | cons y ys =>
      rw [hn] at this
      simp at this
      rw [this]
      rfl
  refine g.add (fun d z => by cases z) (fun np F' gd' z => by cases z) (fun z => by cases z) (fun _ z => by cases z) fun w1 kf z => ?_
  cases z
  refine ⟨f, a, params, df.body, df.sc, dV, kV, doc, pm, an, cdv, ct, oc, od, osl, df.N, h, D.kp, e2, e3, hb, sc, h0, (sc.par a (List.mem_singleton.mpr rfl)).elim .inl fun z => .inr (.inl z), (okName_ok ha).1, (okName_ok ha).2.1, fun X h1 h2 h3 h4 h5 q => ?_⟩
  subst h1 h2 h3 h4 h5
  exact told_givesN hps hm ok g
end
end SE
set_option Elab.async false
set_option linter.all false
set_option maxRecDepth 100000
set_option maxHeartbeats 2000000
namespace SE
open PySem L2
def exc1 (K : PySem.W.Frag) (x : Str) : Bool :=
  He.eqO (PySem.W.findIn K (.ref (He.ga K x)) (Str.ofString "__getattribute__")) (some (some (.builtin "BaseException.__getattribute__"))) && (He.eqO (PySem.W.findIn K (.ref (He.ga K x)) (Str.ofString "__getattr__")) (some none) &&
  (decide (PySem.W.subIn K (.ref (He.ga K x)) (.type "BaseException") = some true) && (PySem.W.hasDictIn K (He.ga K x) && (He.eqO (PySem.W.findIn K (.ref (He.ga K x)) (Str.ofString "__class__")) (some (some (.builtin "object.__class__"))) &&
  (He.eqO (PySem.W.specialIn K (.builtin "object.__class__") (Str.ofString "__get__")) (some (some (.builtin "getset_descriptor.__get__"))) && (decide (PySem.W.takesIn K (.builtin "object.__class__") = some true) && decide (PySem.W.mroIn K (He.ga K x) (.type "object") = some true)))))))
theorem exc1_ok {K : PySem.W.Frag} {x : Str} (h : exc1 K x = true) : ExcC K (He.ga K x) := by
  simp only [exc1, Bool.and_eq_true, decide_eq_true_eq] at h
  obtain ⟨h1, h2, h3, h4, h5, h6, h7, h8⟩ := h
  exact ⟨He.eqO_ok h1, He.eqO_ok h2, h3, h4, He.eqO_ok h5, He.eqO_ok h6, h7, h8⟩
/-- the program's own exceptions, with their families -/
def excAll (K : PySem.W.Frag) (cs : List (Str × List Str)) : Bool :=
  cs.all fun c => He.Fa.ok K (.glo c.1) && ((!mkB c.2 || He.Fa.ok K (.exc c.1)) && (exc1 K c.1 && cs.all fun d => decide (PySem.W.kitOne K (.ref (He.ga K c.1)) (.ref (He.ga K d.1)) = some (c.2.contains d.1)) && decide (PySem.W.exmOne K (.ref (He.ga K c.1)) (.ref (He.ga K d.1)) = some (c.2.contains d.1))))
def excT (cs : List (Str × List Str)) : List (Str × GV) := cs.map fun c => (c.1, .exc c.2)
theorem excT_look {cs : List (Str × List Str)} {x : Str} {a : GV} (h : List.lookup x (excT cs) = some a) : ∃ up, (x, up) ∈ cs ∧ a = .exc up := by
  induction cs with
  | nil => cases h
  | cons c cs ih =>
    rcases lookup_cons (show List.lookup x ((c.1, GV.exc c.2) :: excT cs) = some a from h) with ⟨z1, z2⟩ | z
    · exact ⟨c.2, by rw [z1]; exact List.mem_cons_self, z2.symm⟩
    · obtain ⟨up, h1, h2⟩ := ih z
      exact ⟨up, List.mem_cons_of_mem _ h1, h2⟩
theorem gok_excs {P : Program} {w : World} {K : PySem.W.Frag} {h : Heap} {mg : Str → Option Value} {base : Heap} {T : List (Addr × Str)} {cs : List (Str × List Str)} (X : K.In h) (G : h.Ns mainGlobals mg) (c : excAll K cs = true) : GOk P w K mg base T (excT cs) 0 := by
  have key : ∀ x up, (x, up) ∈ cs → mg x = some (.ref (He.ga K x)) ∧ (mkB up = true → ExcK K (He.ga K x)) ∧ ExcC K (He.ga K x) ∧ ∀ y uq, (y, uq) ∈ cs → PySem.W.kitOne K (.ref (He.ga K x)) (.ref (He.ga K y)) = some (up.contains y) ∧ PySem.W.exmOne K (.ref (He.ga K x)) (.ref (He.ga K y)) = some (up.contains y) := fun x up hx => by
    have h1 := List.all_eq_true.mp c _ hx
    simp only [Bool.and_eq_true, Bool.or_eq_true, Bool.not_eq_true'] at h1
    obtain ⟨a1, a2, a3, a4⟩ := h1
    refine ⟨He.glo_ok X G a1, fun hm => ?_, exc1_ok a3, fun y uq hy => ?_⟩
    · rcases a2 with a2 | a2
      · rw [hm] at a2; cases a2
      · obtain ⟨b1, b2, b3, b4⟩ := He.exc_ok a2
        exact ⟨fun X hX => by subst hX; exact ⟨raises_own b3 b4, b2, _, _, _, _, F.excBase_ValueError, b1⟩⟩
    · have := List.all_eq_true.mp a4 _ hy
      simp only [Bool.and_eq_true, decide_eq_true_eq] at this
      exact this
  refine ⟨fun x d e => ?_, fun x np F gd e => ?_, fun x e => ?_, fun x up e => ?_, fun x w' kf e => ?_⟩
  · obtain ⟨up, _, z⟩ := excT_look e; cases z
  · obtain ⟨up, _, z⟩ := excT_look e; cases z
  · obtain ⟨up, _, z⟩ := excT_look e; cases z
  · obtain ⟨up', hx, z⟩ := excT_look e
    cases z
    obtain ⟨b1, b2, b3, b4⟩ := key x up hx
    refine ⟨_, b1, b2, b3, fun y uq e' => ?_⟩
    obtain ⟨uq', hy, z'⟩ := excT_look e'
    cases z'
    exact ⟨_, (key y uq hy).1, b4 y uq hy⟩
  · obtain ⟨up, _, z⟩ := excT_look e; cases z
end SE
set_option Elab.async false
set_option linter.all false
set_option maxRecDepth 100000
set_option maxHeartbeats 2000000
namespace SE
open PySem L2
def lawCC (f : Df) (gl : List (Str × GV)) : CC := ⟨f.N, f.sc, cellsOf f.sc, gl, f.mu, true, 0, true⟩
def mirrorL (f : Df) (gl : List (Str × GV)) : Option Fn := ((comp 60).Ss (lawCC f gl) f.body).map fun d => mkFn f.ps.length f.N.length d
def lamNm (qual : Str) : Str := (qual ++ ".<locals>.") ++ Str.ofString "<lambda>"
theorem law_ok {P : Program} {w : World} {K : PySem.W.Frag} {mg : Str → Option Value} {base : Heap} {T : List (Addr × Str)} {gl : List (Str × GV)} {lev : Nat} {f c Pt : Addr} {name qual : Str} {params : Arguments} {dV kV doc pm ct oc : Value} {an od : Option Addr} {osl : Array (Option Value)}
    {df : Df} {F : Fn} (g : GOk P w K mg base T gl lev) (lk : List.lookup f K = some { cls := oc, dict := od, data := Data.func (PySem.W.fnOf name qual params df.body df.sc dV kV doc pm an (.ref c) ct), slots := osl })
    (hc : PySem.W.codeIn K (.ref c) qual = true) (ok : dfOk df = true) (hm : mirrorL df gl = some F) (tb : LamX.TabB base mg c Pt) (hT : T = [(Pt, lamNm qual)]) :
    FnG P w K mg base T true (lev + 3) f (PySem.W.fnOf name qual params df.body df.sc dV kV doc pm an (.ref c) ct) df.ps F := by
  unfold mirrorL at hm
  obtain ⟨d, hd, e⟩ := Option.map_eq_some_iff.mp hm
  subst e
  have sc := dfOk_ok ok
  refine fnG_of lk hc sc fun A outer s H E Z hg hr => ?_
  have o : OkX (cxOf (L2N.CX P w) P w K mg base df.N qual df.sc f (.ref c) A outer s H E) (lawCC df gl) T (fun c dd _ H => E c dd H) lev :=
    ⟨g, rfl, rfl, sc.nd, fun _ => rfl, (fun z => nomatch z), (fun _ => ⟨hr, c, Pt, tb, rfl, by rw [hT]; exact List.mem_cons_self, fun p hp _ => by
      rw [hT] at hp
      rw [List.mem_singleton.mp hp]
      rfl⟩), L2N.takes_of rfl rfl rfl rfl, fun _ => hr.mono (by omega), by have := hr.un; show (A.deeper (PyProof.Rows.envOfC qual df.sc s.heap.objs.size f (.ref c))).units + 66 < cLine; omega, fun z => hg z, fun x _ => rfl⟩
  exact (comp_sound 60).Ss o PassesOwn.leaving hd Z
/-- a def of the program's text, as the head tells it -/
def dD (x : Str) (params : Arguments) (df : Df) : He.DefD := ⟨(x, none), x, x, params, df.body, df.sc, [], []⟩
abbrev lawT (K : PySem.W.Frag) : List (Addr × Str) := [((He.cT K (Str.ofString "law", none)).2, lamNm (Str.ofString "law"))]
theorem law_at {l : PySem.W.OpenLaw} {w : World} {K : PySem.W.Frag} {lev n : Nat} {h : Heap} {mg : Str → Option Value} {fa : Addr} {x : Str} {fl : List He.Fa} {fn : List He.DefD} {ex : PySem.W.Frag → Bool} {gl : List (Str × GV)} {params : Arguments} {df : Df} {F : Fn}
    (X : K.In h) (G : h.Ns mainGlobals mg) (S : He.SaysX fl fn [] [(Str.ofString "law", none)] ex w h K) (hfa : mg (Str.ofString "law") = some (.ref fa)) (hlaw : He.Fa.ok K (.glo (Str.ofString "law")) = true)
    (hD : dD (Str.ofString "law") params df ∈ fn) (ok : dfOk df = true) (hps : df.ps = [x]) (hm : mirrorL df gl = some F)
    (hb : ∀ (kV doc pm : Value) (an : Option Addr) (cdv ct : Value) (us : List Value), us.length = [x].length → bindArgs (PySem.W.fnOf (Str.ofString "law") (Str.ofString "law") params df.body df.sc .none kV doc pm an cdv ct) ⟨us, []⟩ = pure ([x].zip us))
    (hg : ∀ base : Heap, K.In base → base.Ns mainGlobals mg → GOk l.prog w K mg base (lawT K) gl lev)
    (math : ∀ ns : List Int, ns.length ≤ n → ∃ r, F [.va false (.list (ns.map PyData.int))] = .ok (.va (.bool true)) r) : LawAtG l w K (lev + 3) n x mg fa h := by
  obtain ⟨fd, D⟩ := He.SaysD.defs S.t.d hD
  have e1 : He.fAd K (Str.ofString "law", none) = fa := by
    have := (He.glo_ok X G hlaw).symm.trans hfa
    cases this
    rfl
  have D' : FunD K (Str.ofString "law") (Str.ofString "law") params df.body df.sc [] [] fa fd := by
    rw [← e1]
    exact D
  obtain ⟨oc, od, dV, kV, doc, pm, an, cdv, ct, osl, e, lk, hcd, _, _⟩ := D'.ex
  obtain ⟨c, hc⟩ := He.codeIn_ref hcd
  subst hc
  have hco : He.codeOf K (Str.ofString "law", none) = c := He.codeOf_eq (fd := fd) (by rw [e1]; exact lk) (by rw [e])
  have hmem : ((Str.ofString "law", none) : He.Defn) ∈ [((Str.ofString "law", none) : He.Defn)] := List.mem_singleton.mpr rfl
  have hin : (He.cT K (Str.ofString "law", none)).1 = c := hco
  refine ⟨fd, [He.cT K (Str.ofString "law", none)], lawT K, F, fun p hp => ?_, fun p hp => ?_, fun p hp => ?_, fun s u => ?_, fun t ht => ?_, math, fun base b1 b2 b3 => ?_⟩
  · rw [List.mem_singleton.mp hp]; exact S.empty _ hmem
  · rw [List.mem_singleton.mp hp]; exact S.out _ hmem
  · rw [List.mem_singleton.mp hp]; exact PySem.W.codeHd_of_K X (S.hd _ hmem)
  · exact FunD.bindsA (ps := [x]) D' hb s [u] rfl
  · rw [List.mem_singleton.mp ht]; exact ⟨_, List.mem_singleton.mpr rfl, rfl⟩
  · have tb := b3 _ (List.mem_singleton.mpr rfl)
    rw [hin] at tb
    subst e
    have := law_ok (hg base b1 b2) lk hcd ok hm tb rfl
    rw [hps] at this
    exact this
end SE
set_option Elab.async false
set_option linter.all false
set_option maxRecDepth 100000
set_option maxHeartbeats 2000000
namespace SE
open PySem L2
section
variable {P : Program} {w : World} {K : PySem.W.Frag} {mg : Str → Option Value} {base h : Heap} {T : List (Addr × Str)} {gl : List (Str × GV)} {lev : Nat} {x : Str}
theorem gok_fnD (g : GOk P w K mg base T gl lev) {fd : FuncData} {params : Arguments} {df : Df} {F : Fn} {ps : List Str} {n : Nat}
    (D : FunD K (dD x params df).name (dD x params df).qual (dD x params df).params (dD x params df).body (dD x params df).scope ((dD x params df).dvs K) ((dD x params df).kws K) (He.fAd K (dD x params df).at_) fd)
    (hx : mg x = some (.ref (He.ga K x))) (ok : dfOk df = true) (hm : mirror df gl true = some F) (hps : df.ps = ps) (hn : ps.length = n)
    (hb : ∀ (kV doc pm : Value) (an : Option Addr) (cdv ct : Value) (us : List Value), us.length = ps.length → bindArgs (PySem.W.fnOf x x params df.body df.sc .none kV doc pm an cdv ct) ⟨us, []⟩ = pure (ps.zip us)) :
    GOk P w K mg base T ((x, .fn n F true) :: gl) (lev + 1) := by
  have D' : FunD K x x params df.body df.sc [] [] (He.ga K x) fd := D
  have := gok_fn g D' hx ok hm (by rw [hps]; exact D'.bindsN hb)
  rw [hps, hn] at this
  exact this
theorem gok_toldD (g : GOk P w K mg base T gl lev) {fd : FuncData} {params : Arguments} {df : Df} {a w' : Str} {tk : List Str → Option Str}
    (D : FunD K (dD x params df).name (dD x params df).qual (dD x params df).params (dD x params df).body (dD x params df).scope ((dD x params df).dvs K) ((dD x params df).kws K) (He.fAd K (dD x params df).at_) fd)
    (hx : mg x = some (.ref (He.ga K x))) (ok : dfOk df = true) (hm : toldR df gl = some (w', tk)) (hps : df.ps = [a]) (ha : okName a = true)
    (hb : ∀ (kV doc pm : Value) (an : Option Addr) (cdv ct : Value) (us : List Value), us.length = [a].length → bindArgs (PySem.W.fnOf x x params df.body df.sc .none kV doc pm an cdv ct) ⟨us, []⟩ = pure ([a].zip us)) :
    GOk P w K mg base T ((x, .told w' (kindF gl tk)) :: gl) lev := by
  have D' : FunD K x x params df.body df.sc [] [] (He.ga K x) fd := D
  exact gok_told g D' hx ok hps ha hm (D'.bindsN hb)
end
mutual
/-- the value u stands for d -/
def conV (K : PySem.W.Frag) : D → Value → Bool
  | .int i, .int j _ => decide (i = j)
  | .str x, .str y _ => decide (x = y)
  | .tuple ds, .ref a => (match K.lookup a with
    | some ⟨.type c, _, .seq its _, _⟩ => decide (c = "tuple") && (decide (its.size ≤ sizeLine) && conVs K ds its.toList)
    | _ => false)
  | _, _ => false
def conVs (K : PySem.W.Frag) : List D → List Value → Bool
  | [], [] => true
  | d :: ds, u :: us => conV K d u && conVs K ds us
  | _, _ => false
end
mutual
theorem conV_ok {K : PySem.W.Frag} : ∀ (d : D) (u : Value), conV K d u = true → ∃ v, RelV v u ∧ ∀ M H, Rp K M H d v
  | .int i, .int j t, h => ⟨.int i, by
    have e : i = j := of_decide_eq_true (by simpa only [conV] using h)
    exact ⟨t, by rw [e]⟩, fun M H => by simp only [Rp]⟩
  | .str x, .str y t, h => ⟨.str x, by
    have e : x = y := of_decide_eq_true (by simpa only [conV] using h)
    exact ⟨t, by rw [e]⟩, fun M H => by simp only [Rp]⟩
  | .tuple ds, .ref a, h => by
    unfold conV at h
    cases q : K.lookup a with
    | none => rw [q] at h; cases h
    | some o =>
      obtain ⟨oc, od, dt, osl⟩ := o
      rw [q] at h
      cases oc with
      | type c =>
        cases dt with
        | seq its n =>
          simp only [Bool.and_eq_true, decide_eq_true_eq] at h
          obtain ⟨h1, h2, h3⟩ := h
          obtain ⟨vs, r1, r2⟩ := conVs_ok ds its.toList h3
          refine ⟨.ref a, rfl, fun M H => ?_⟩
          simp only [Rp]
          exact ⟨a, vs, rfl, .inr ⟨_, its, n, q, congrArg Value.type h1, rfl, h2, r1⟩, r2 M H⟩
        | _ => cases h
      | _ => cases dt <;> cases h
  | .none, _, h => by simp [conV] at h
  | .bool _, _, h => by simp [conV] at h
  | .list _, _, h => by simp [conV] at h
  | .dict _, _, h => by simp [conV] at h
  | .int _, .none, h => by simp [conV] at h
  | .int _, .bool _, h => by simp [conV] at h
  | .int _, .str _ _, h => by simp [conV] at h
  | .int _, .ref _, h => by simp [conV] at h
  | .str _, .none, h => by simp [conV] at h
  | .str _, .bool _, h => by simp [conV] at h
  | .str _, .int _ _, h => by simp [conV] at h
  | .str _, .ref _, h => by simp [conV] at h
  | .tuple _, .none, h => by simp [conV] at h
  | .tuple _, .bool _, h => by simp [conV] at h
  | .tuple _, .str _ _, h => by simp [conV] at h
  | .tuple _, .int _ _, h => by simp [conV] at h
  | .int _, .type _, h => by simp [conV] at h
  | .int _, .builtin _, h => by simp [conV] at h
  | .str _, .type _, h => by simp [conV] at h
  | .str _, .builtin _, h => by simp [conV] at h
  | .tuple _, .type _, h => by simp [conV] at h
  | .tuple _, .builtin _, h => by simp [conV] at h
theorem conVs_ok {K : PySem.W.Frag} : ∀ (ds : List D) (us : List Value), conVs K ds us = true → ∃ vs, Vals vs us ∧ ∀ M H, RpL K M H ds vs
  | [], [], _ => ⟨[], .nil, fun M H => RpL.nil⟩
  | [], _ :: _, h => by simp [conVs] at h
  | _ :: _, [], h => by simp [conVs] at h
  | d :: ds, u :: us, h => by
    simp only [conVs, Bool.and_eq_true] at h
    obtain ⟨v, a1, a2⟩ := conV_ok d u h.1
    obtain ⟨vs, b1, b2⟩ := conVs_ok ds us h.2
    exact ⟨v :: vs, .cons a1 b1, fun M H => RpL.cons (a2 M H) (b2 M H)⟩
end
def conB (K : PySem.W.Frag) (x : Str) (d : D) : Bool := match PySem.W.nsIn K mainGlobals x with
  | some (some u) => conV K d u
  | _ => false
theorem gok_con {P : Program} {w : World} {K : PySem.W.Frag} {mg : Str → Option Value} {base h : Heap} {T : List (Addr × Str)} {gl : List (Str × GV)} {lev : Nat} {x : Str} {d : D} (X : K.In h) (G : h.Ns mainGlobals mg) (g : GOk P w K mg base T gl lev) (c : conB K x d = true) :
    GOk P w K mg base T ((x, .con d) :: gl) lev := by
  unfold conB at c
  cases e : PySem.W.nsIn K mainGlobals x with
  | none => rw [e] at c; cases c
  | some o =>
    rw [e] at c
    cases o with
    | none => cases c
    | some u =>
      obtain ⟨v, h1, h2⟩ := conV_ok d u c
      exact g.add (fun d' z => by cases z; exact ⟨v, u, PySem.W.mg_of X G e, h1, h2⟩) (fun _ _ _ z => by cases z) (fun z => by cases z) (fun _ z => by cases z) fun _ _ z => by cases z
end SE
set_option Elab.async false
set_option linter.all false
set_option maxRecDepth 100000
set_option maxHeartbeats 1000000
namespace SE
open PySem
def SOut.sq (o : SOut) (b : DS) : SOut := match o with
  | .nx r => b r
  | o => o
@[simp] theorem sq_nx (r : Env) (b : DS) : (SOut.nx r).sq b = b r := of_eq_true (eq_true rfl)
@[simp] theorem sq_bk (r : Env) (b : DS) : (SOut.bk r).sq b = .bk r := of_eq_true (eq_true rfl)
@[simp] theorem sq_ct (r : Env) (b : DS) : (SOut.ct r).sq b = .ct r := of_eq_true (eq_true rfl)
@[simp] theorem sq_rt (v : R) (r : Env) (b : DS) : (SOut.rt v r).sq b = .rt v r := of_eq_true (eq_true rfl)
@[simp] theorem sq_ex (e : Exn) (r : Env) (b : DS) : (SOut.ex e r).sq b = .ex e r := of_eq_true (eq_true rfl)
@[simp] theorem sq_bad (b : DS) : SOut.bad.sq b = .bad := of_eq_true (eq_true rfl)
@[simp] theorem x_seq (a b : DS) (r : Env) : sSeq a b r = (a r).sq b := by
  unfold sSeq SOut.sq
  cases a r <;> rfl
def fin (as : List Sl) (o : SOut) : Out R := match o with
  | .nx r => .ok (.va .none) (outs as r)
  | .rt x r => match retR r x with
    | some (v, r') => .ok v (outs as r')
    | none => .bad
  | .ex e r => .ex e (outs as r)
  | _ => .bad
@[simp] theorem fin_nx (as : List Sl) (r : Env) : fin as (.nx r) = .ok (.va .none) (outs as r) := of_eq_true (eq_true rfl)
@[simp] theorem fin_ex (as : List Sl) (e : Exn) (r : Env) : fin as (.ex e r) = .ex e (outs as r) := of_eq_true (eq_true rfl)
@[simp] theorem fin_va (as : List Sl) (d : D) (r : Env) : fin as (.rt (.va d) r) = .ok (.va d) (outs as r) := of_eq_true (eq_true rfl)
@[simp] theorem fin_nw (as : List Sl) (d : D) (r : Env) : fin as (.rt (.nw d) r) = .ok (.nw d) (outs as r) := of_eq_true (eq_true rfl)
def finS (as : List Sl) (i : Nat) (r : Env) : Option Sl → Out R
  | some (.ow false false d) => .ok (.nw d) (outs as (r.set i .un))
  | some (.ow true false d) => .ok (.va d) (outs as (r.set i (.va true d)))
  | some (.va _ d) => .ok (.va d) (outs as r)
  | _ => .bad
@[simp] theorem fin_sl (as : List Sl) (i : Nat) (r : Env) : fin as (.rt (.sl i) r) = finS as i r r[i]? := by
  unfold fin retR finS
  dsimp only
  cases r[i]? with
  | none => rfl
  | some s =>
    cases s with
    | un => rfl
    | va p d => rfl
    | ow p l d => cases p <;> cases l <;> rfl
@[simp] theorem finS_nw (as : List Sl) (i : Nat) (r : Env) (d : D) : finS as i r (some (.ow false false d)) = .ok (.nw d) (outs as (r.set i .un)) := of_eq_true (eq_true rfl)
@[simp] theorem finS_pv (as : List Sl) (i : Nat) (r : Env) (d : D) : finS as i r (some (.ow true false d)) = .ok (.va d) (outs as (r.set i (.va true d))) := of_eq_true (eq_true rfl)
@[simp] theorem finS_va (as : List Sl) (i : Nat) (r : Env) (p : Bool) (d : D) : finS as i r (some (.va p d)) = .ok (.va d) (outs as r) := of_eq_true (eq_true rfl)
@[simp] theorem x_fn (np nl : Nat) (b : DS) (as : List Sl) (h : as.length = np) : mkFn np nl b as = fin as (b (as.map inn ++ List.replicate (nl - np) .un)) := by
  unfold mkFn fin
  rw [if_pos h]
  all_goals (cases b (as.map inn ++ List.replicate (nl - np) .un) <;> rfl)
@[simp] theorem x_c (d : D) (r : Env) : dC d r = .ok (.va d) r := of_eq_true (eq_true rfl)
def varK (i : Nat) (r : Env) : Option Sl → Out R
  | some (.va _ d) => .ok (.va d) r
  | some (.ow _ _ _) => .ok (.sl i) r
  | _ => .bad
@[simp] theorem varK_va (i : Nat) (r : Env) (p : Bool) (d : D) : varK i r (some (.va p d)) = .ok (.va d) r := rfl
@[simp] theorem varK_ow (i : Nat) (r : Env) (p l : Bool) (d : D) : varK i r (some (.ow p l d)) = .ok (.sl i) r := rfl
@[simp] theorem x_var (i : Nat) (r : Env) : dVar i r = varK i r r[i]? := of_eq_true (eq_true rfl)
def kOp2 (f : D → D → Option R) (x : R) : R → Env → Out R := fun y r2 => opt ((der r2 x).bind fun u => (der r2 y).bind fun v => f u v) r2
@[simp] theorem kOp2_at (f : D → D → Option R) (x : R) (y : R) (r2 : Env) : kOp2 f x y r2 = opt ((der r2 x).bind fun u => (der r2 y).bind fun v => f u v) r2 := of_eq_true (eq_true rfl)
def kOp1 (f : D → D → Option R) (b : DE) : R → Env → Out R := fun x r1 => (b r1).bind (kOp2 f x)
@[simp] theorem kOp1_at (f : D → D → Option R) (b : DE) (x : R) (r1 : Env) : kOp1 f b x r1 = (b r1).bind (kOp2 f x) := of_eq_true (eq_true rfl)
@[simp] theorem x_op (f : D → D → Option R) (a b : DE) (r : Env) : dOp f a b r = (a r).bind (kOp1 f b) := of_eq_true (eq_true rfl)
def kUn (f : D → Option R) : R → Env → Out R := fun x r1 => opt ((der r1 x).bind f) r1
@[simp] theorem kUn_at (f : D → Option R) (x : R) (r1 : Env) : kUn f x r1 = opt ((der r1 x).bind f) r1 := of_eq_true (eq_true rfl)
@[simp] theorem x_un (f : D → Option R) (a : DE) (r : Env) : dUn f a r = (a r).bind (kUn f) := of_eq_true (eq_true rfl)
@[simp] theorem x_rnil (r : Env) : rNil r = .ok [] r := of_eq_true (eq_true rfl)
def kR2 (x : R) : List R → Env → Out (List R) := fun xs r2 => .ok (x :: xs) r2
@[simp] theorem kR2_at (x : R) (xs : List R) (r2 : Env) : kR2 x xs r2 = .ok (x :: xs) r2 := of_eq_true (eq_true rfl)
def kR1 (t : DR) : R → Env → Out (List R) := fun x r1 => (t r1).bind (kR2 x)
@[simp] theorem kR1_at (t : DR) (x : R) (r1 : Env) : kR1 t x r1 = (t r1).bind (kR2 x) := of_eq_true (eq_true rfl)
@[simp] theorem x_rcons (a : DE) (t : DR) (r : Env) : rCons a t r = (a r).bind (kR1 t) := of_eq_true (eq_true rfl)
def kB (f : List D → Option R) : List R → Env → Out R := fun xs r1 => opt ((ders r1 xs).bind f) r1
@[simp] theorem kB_at (f : List D → Option R) (xs : List R) (r1 : Env) : kB f xs r1 = opt ((ders r1 xs).bind f) r1 := of_eq_true (eq_true rfl)
@[simp] theorem x_b (f : List D → Option R) (t : DR) (r : Env) : dB f t r = (t r).bind (kB f) := of_eq_true (eq_true rfl)
@[simp] theorem x_anil (r : Env) : aNil r = .ok [] r := of_eq_true (eq_true rfl)
def kA2 (d : D) : List D → Env → Out (List D) := fun ds r3 => .ok (d :: ds) r3
@[simp] theorem kA2_at (d : D) (ds : List D) (r3 : Env) : kA2 d ds r3 = .ok (d :: ds) r3 := of_eq_true (eq_true rfl)
def escK (t : DA) : Option (D × Env) → Out (List D)
  | some (d, r2) => (t r2).bind (kA2 d)
  | none => .bad
@[simp] theorem escK_some (t : DA) (d : D) (r : Env) : escK t (some (d, r)) = (t r).bind (kA2 d) := of_eq_true (eq_true rfl)
def kA1 (t : DA) : R → Env → Out (List D) := fun x r1 => escK t (esc r1 x)
@[simp] theorem kA1_at (t : DA) (x : R) (r1 : Env) : kA1 t x r1 = escK t (esc r1 x) := of_eq_true (eq_true rfl)
@[simp] theorem x_acons (a : DE) (t : DA) (r : Env) : aCons a t r = (a r).bind (kA1 t) := by
  unfold aCons
  cases a r with
  | ok x r1 => rw [bind_ok, bind_ok, kA1_at]; cases esc r1 x <;> rfl
  | ex e r1 => rfl
  | bad => rfl
def kTup  : List D → Env → Out R := fun ds r1 => if ds.length ≤ lim then .ok (.va (.tuple ds)) r1 else .bad
@[simp] theorem kTup_at (ds : List D) (r1 : Env) : kTup ds r1 = if ds.length ≤ lim then .ok (.va (.tuple ds)) r1 else .bad := of_eq_true (eq_true rfl)
@[simp] theorem x_tup (t : DA) (r : Env) : dTup t r = (t r).bind kTup := of_eq_true (eq_true rfl)
def kLst  : List D → Env → Out R := fun ds r1 => if ds.length ≤ lim then .ok (.nw (.list ds)) r1 else .bad
@[simp] theorem kLst_at  (ds : List D) (r1 : Env) : kLst  ds r1 = if ds.length ≤ lim then .ok (.nw (.list ds)) r1 else .bad := of_eq_true (eq_true rfl)
@[simp] theorem x_lst (t : DA) (r : Env) : dLst t r = (t r).bind kLst := of_eq_true (eq_true rfl)
def kTv  : R → Env → Out Bool := fun x r1 => opt ((der r1 x).bind truth) r1
@[simp] theorem kTv_at  (x : R) (r1 : Env) : kTv  x r1 = opt ((der r1 x).bind truth) r1 := of_eq_true (eq_true rfl)
@[simp] theorem x_tval (a : DE) (r : Env) : tVal a r = (a r).bind kTv := of_eq_true (eq_true rfl)
def kTb  : R → Env → Out Bool := fun x r1 => opt ((der r1 x).bind asB) r1
@[simp] theorem kTb_at  (x : R) (r1 : Env) : kTb  x r1 = opt ((der r1 x).bind asB) r1 := of_eq_true (eq_true rfl)
@[simp] theorem x_tb (a : DE) (r : Env) : SE.tB a r = (a r).bind kTb := of_eq_true (eq_true rfl)
def kTn  : Bool → Env → Out Bool := fun b r1 => .ok (!b) r1
@[simp] theorem kTn_at  (b : Bool) (r1 : Env) : kTn  b r1 = .ok (!b) r1 := of_eq_true (eq_true rfl)
@[simp] theorem x_tnot (t : DT) (r : Env) : SE.tNot t r = (t r).bind kTn := of_eq_true (eq_true rfl)
def kTa (u : DT) : Bool → Env → Out Bool := fun b r1 => if b = true then u r1 else .ok false r1
@[simp] theorem kTa_at (u : DT) (b : Bool) (r1 : Env) : kTa u b r1 = if b = true then u r1 else .ok false r1 := of_eq_true (eq_true rfl)
@[simp] theorem x_tand (t u : DT) (r : Env) : SE.tAnd t u r = (t r).bind (kTa u) := of_eq_true (eq_true rfl)
def kTo (u : DT) : Bool → Env → Out Bool := fun b r1 => if b = true then .ok true r1 else u r1
@[simp] theorem kTo_at (u : DT) (b : Bool) (r1 : Env) : kTo u b r1 = if b = true then .ok true r1 else u r1 := of_eq_true (eq_true rfl)
@[simp] theorem x_tor (t u : DT) (r : Env) : SE.tOr t u r = (t r).bind (kTo u) := of_eq_true (eq_true rfl)
@[simp] theorem x_tyes (r : Env) : tYes r = .ok true r := of_eq_true (eq_true rfl)
def kAn2 (b : DE) : Bool → Env → Out R := fun c r2 => if c = true then b r2 else .ok (.va (.bool false)) r2
@[simp] theorem kAn2_at (b : DE) (c : Bool) (r2 : Env) : kAn2 b c r2 = if c = true then b r2 else .ok (.va (.bool false)) r2 := of_eq_true (eq_true rfl)
def kAn1 (b : DE) : R → Env → Out R := fun x r1 => (opt ((der r1 x).bind asB) r1).bind (kAn2 b)
@[simp] theorem kAn1_at (b : DE) (x : R) (r1 : Env) : kAn1 b x r1 = (opt ((der r1 x).bind asB) r1).bind (kAn2 b) := of_eq_true (eq_true rfl)
@[simp] theorem x_and (a b : DE) (r : Env) : dAnd a b r = (a r).bind (kAn1 b) := of_eq_true (eq_true rfl)
def kOr2 (b : DE) : Bool → Env → Out R := fun c r2 => if c = true then .ok (.va (.bool true)) r2 else b r2
@[simp] theorem kOr2_at (b : DE) (c : Bool) (r2 : Env) : kOr2 b c r2 = if c = true then .ok (.va (.bool true)) r2 else b r2 := of_eq_true (eq_true rfl)
def kOr1 (b : DE) : R → Env → Out R := fun x r1 => (opt ((der r1 x).bind asB) r1).bind (kOr2 b)
@[simp] theorem kOr1_at (b : DE) (x : R) (r1 : Env) : kOr1 b x r1 = (opt ((der r1 x).bind asB) r1).bind (kOr2 b) := of_eq_true (eq_true rfl)
@[simp] theorem x_or (a b : DE) (r : Env) : dOr a b r = (a r).bind (kOr1 b) := of_eq_true (eq_true rfl)
def kNo2  : Bool → Env → Out R := fun c r2 => .ok (.va (.bool (!c))) r2
@[simp] theorem kNo2_at  (c : Bool) (r2 : Env) : kNo2  c r2 = .ok (.va (.bool (!c))) r2 := of_eq_true (eq_true rfl)
def kNo1  : R → Env → Out R := fun x r1 => (opt ((der r1 x).bind truth) r1).bind kNo2
@[simp] theorem kNo1_at  (x : R) (r1 : Env) : kNo1  x r1 = (opt ((der r1 x).bind truth) r1).bind kNo2 := of_eq_true (eq_true rfl)
@[simp] theorem x_not (a : DE) (r : Env) : dNot a r = (a r).bind kNo1 := of_eq_true (eq_true rfl)
def kIf (a b : DE) : Bool → Env → Out R := fun c r1 => if c = true then a r1 else b r1
@[simp] theorem kIf_at (a b : DE) (c : Bool) (r1 : Env) : kIf a b c r1 = if c = true then a r1 else b r1 := of_eq_true (eq_true rfl)
@[simp] theorem x_if (t : DT) (a b : DE) (r : Env) : dIf t a b r = (t r).bind (kIf a b) := of_eq_true (eq_true rfl)
def kCh4 (g : D → D → Option R) (y : R) : R → Env → Out R := fun z r4 => opt ((der r4 y).bind fun v => (der r4 z).bind fun w => g v w) r4
@[simp] theorem kCh4_at (g : D → D → Option R) (y : R) (z : R) (r4 : Env) : kCh4 g y z r4 = opt ((der r4 y).bind fun v => (der r4 z).bind fun w => g v w) r4 := of_eq_true (eq_true rfl)
def kCh3 (g : D → D → Option R) (y : R) (c : DE) : Bool → Env → Out R := fun k r3 => if k = true then (c r3).bind (kCh4 g y) else .ok (.va (.bool false)) r3
@[simp] theorem kCh3_at (g : D → D → Option R) (y : R) (c : DE) (k : Bool) (r3 : Env) : kCh3 g y c k r3 = if k = true then (c r3).bind (kCh4 g y) else .ok (.va (.bool false)) r3 := of_eq_true (eq_true rfl)
def kCh2 (f g : D → D → Option R) (x : R) (c : DE) : R → Env → Out R := fun y r2 => (opt ((der r2 x).bind fun u => (der r2 y).bind fun v => (f u v).bind fun z => (der r2 z).bind asB) r2).bind (kCh3 g y c)
@[simp] theorem kCh2_at (f g : D → D → Option R) (x : R) (c : DE) (y : R) (r2 : Env) : kCh2 f g x c y r2 = (opt ((der r2 x).bind fun u => (der r2 y).bind fun v => (f u v).bind fun z => (der r2 z).bind asB) r2).bind (kCh3 g y c) := of_eq_true (eq_true rfl)
def kCh1 (f g : D → D → Option R) (b c : DE) : R → Env → Out R := fun x r1 => (b r1).bind (kCh2 f g x c)
@[simp] theorem kCh1_at (f g : D → D → Option R) (b c : DE) (x : R) (r1 : Env) : kCh1 f g b c x r1 = (b r1).bind (kCh2 f g x c) := of_eq_true (eq_true rfl)
@[simp] theorem x_chain (f g : D → D → Option R) (a b c : DE) (r : Env) : dChain f g a b c r = (a r).bind (kCh1 f g b c) := of_eq_true (eq_true rfl)
@[simp] theorem x_onone (r : Env) : oNone r = .ok none r := of_eq_true (eq_true rfl)
def kOs  : R → Env → Out (Option Int) := fun x r1 => opt (((der r1 x).bind asI).map some) r1
@[simp] theorem kOs_at  (x : R) (r1 : Env) : kOs  x r1 = opt (((der r1 x).bind asI).map some) r1 := of_eq_true (eq_true rfl)
@[simp] theorem x_osome (a : DE) (r : Env) : oSome a r = (a r).bind kOs := of_eq_true (eq_true rfl)
def kSl3 (f : D → Option Int → Option Int → Option R) (x : R) (l : Option Int) : Option Int → Env → Out R := fun h r3 => opt ((der r3 x).bind fun d => f d l h) r3
@[simp] theorem kSl3_at (f : D → Option Int → Option Int → Option R) (x : R) (l : Option Int) (h : Option Int) (r3 : Env) : kSl3 f x l h r3 = opt ((der r3 x).bind fun d => f d l h) r3 := of_eq_true (eq_true rfl)
def kSl2 (f : D → Option Int → Option Int → Option R) (x : R) (hi : DO) : Option Int → Env → Out R := fun l r2 => (hi r2).bind (kSl3 f x l)
@[simp] theorem kSl2_at (f : D → Option Int → Option Int → Option R) (x : R) (hi : DO) (l : Option Int) (r2 : Env) : kSl2 f x hi l r2 = (hi r2).bind (kSl3 f x l) := of_eq_true (eq_true rfl)
def kSl1 (f : D → Option Int → Option Int → Option R) (lo hi : DO) : R → Env → Out R := fun x r1 => (lo r1).bind (kSl2 f x hi)
@[simp] theorem kSl1_at (f : D → Option Int → Option Int → Option R) (lo hi : DO) (x : R) (r1 : Env) : kSl1 f lo hi x r1 = (lo r1).bind (kSl2 f x hi) := of_eq_true (eq_true rfl)
@[simp] theorem x_sl (f : D → Option Int → Option Int → Option R) (a : DE) (lo hi : DO) (r : Env) : dSl f a lo hi r = (a r).bind (kSl1 f lo hi) := of_eq_true (eq_true rfl)
def callW (xs : List R) (r : Env) : Out R → Out R
  | .ok (.va d) as' => .ok (.va d) (wb r xs as')
  | .ok (.nw d) as' => .ok (.nw d) (wb r xs as')
  | .ok (.sl _) _ => .bad
  | .ex e as' => .ex e (wb r xs as')
  | .bad => .bad
@[simp] theorem callW_va (xs : List R) (r : Env) (d : D) (as : List Sl) : callW xs r (.ok (.va d) as) = .ok (.va d) (wb r xs as) := of_eq_true (eq_true rfl)
@[simp] theorem callW_nw (xs : List R) (r : Env) (d : D) (as : List Sl) : callW xs r (.ok (.nw d) as) = .ok (.nw d) (wb r xs as) := of_eq_true (eq_true rfl)
@[simp] theorem callW_ex (xs : List R) (r : Env) (e : Exn) (as : List Sl) : callW xs r (.ex e as) = .ex e (wb r xs as) := of_eq_true (eq_true rfl)
def callA (F : Fn) (xs : List R) (r : Env) : Option (List Sl) → Out R
  | some as => if (slsOf r xs).Nodup then callW xs r (F as) else .bad
  | none => .bad
@[simp] theorem callA_some (F : Fn) (xs : List R) (r : Env) (as : List Sl) : callA F xs r (some as) = if (slsOf r xs).Nodup then callW xs r (F as) else .bad := of_eq_true (eq_true rfl)
theorem callF_eq (F : Fn) (xs : List R) (r1 : Env) : callF F xs r1 = callA F xs r1 (argsOf r1 xs) := by
  unfold callF callA
  cases argsOf r1 xs with
  | none => rfl
  | some as =>
    dsimp only
    by_cases h : (slsOf r1 xs).Nodup
    · rw [if_pos h, if_pos h]
      cases F as with
      | ok v as' => cases v <;> rfl
      | ex e as' => rfl
      | bad => rfl
    · rw [if_neg h, if_neg h]
def kCall (F : Fn) : List R → Env → Out R := fun xs r1 => callA F xs r1 (argsOf r1 xs)
@[simp] theorem kCall_at (F : Fn) (xs : List R) (r1 : Env) : kCall F xs r1 = callA F xs r1 (argsOf r1 xs) := of_eq_true (eq_true rfl)
@[simp] theorem x_call (F : Fn) (t : DR) (r : Env) : dCall F t r = (t r).bind (kCall F) := by
  unfold dCall
  cases t r with
  | ok xs r1 => rw [bind_ok, bind_ok, kCall_at, callF_eq]
  | ex e r1 => rfl
  | bad => rfl
def argS : Option Sl → Option Sl
  | some (.ow _ l d) => some (.ow false l d)
  | some (.va _ d) => some (.va false d)
  | _ => none
@[simp] theorem argS_va (p : Bool) (d : D) : argS (some (.va p d)) = some (.va false d) := rfl
@[simp] theorem argS_ow (p l : Bool) (d : D) : argS (some (.ow p l d)) = some (.ow false l d) := rfl
@[simp] theorem argOf_va' (r : Env) (d : D) : argOf r (.va d) = some (.va false d) := rfl
@[simp] theorem argOf_nw' (r : Env) (d : D) : argOf r (.nw d) = some (.va false d) := rfl
@[simp] theorem argOf_sl' (r : Env) (i : Nat) : argOf r (.sl i) = argS r[i]? := rfl
@[simp] theorem argsOf_nil' (r : Env) : argsOf r [] = some [] := rfl
@[simp] theorem argsOf_cons' (r : Env) (x : R) (xs : List R) : argsOf r (x :: xs) = (argOf r x).bind fun a => (argsOf r xs).bind fun as => some (a :: as) := rfl
def slsS (i : Nat) (l : List Nat) : Option Sl → List Nat
  | some (.ow _ _ _) => i :: l
  | _ => l
@[simp] theorem slsS_va (i : Nat) (l : List Nat) (p : Bool) (d : D) : slsS i l (some (.va p d)) = l := rfl
@[simp] theorem slsS_ow (i : Nat) (l : List Nat) (p q : Bool) (d : D) : slsS i l (some (.ow p q d)) = i :: l := rfl
@[simp] theorem slsOf_nil' (r : Env) : slsOf r [] = [] := by unfold slsOf; rfl
@[simp] theorem slsOf_va' (r : Env) (d : D) (xs : List R) : slsOf r (.va d :: xs) = slsOf r xs := by conv => lhs; unfold slsOf
@[simp] theorem slsOf_nw' (r : Env) (d : D) (xs : List R) : slsOf r (.nw d :: xs) = slsOf r xs := by conv => lhs; unfold slsOf
@[simp] theorem slsOf_sl' (r : Env) (i : Nat) (xs : List R) : slsOf r (.sl i :: xs) = slsS i (slsOf r xs) r[i]? := by (conv => lhs; unfold slsOf); rfl
@[simp] theorem wb_nil1 (r : Env) (as : List Sl) : wb r [] as = r := by unfold wb; rfl
@[simp] theorem wb_cons' (r : Env) (x : R) (xs : List R) (a : Sl) (as : List Sl) : wb r (x :: xs) (a :: as) = wb (wb1 r x a) xs as := by conv => lhs; unfold wb
@[simp] theorem wb1_va' (r : Env) (d : D) (a : Sl) : wb1 r (.va d) a = r := by unfold wb1; rfl
@[simp] theorem wb1_nw' (r : Env) (d : D) (a : Sl) : wb1 r (.nw d) a = r := by unfold wb1; rfl
def wbO (i : Nat) (r : Env) (d : D) : Option Sl → Env
  | some (.ow p l _) => r.set i (.ow p l d)
  | _ => r
def wbV (i : Nat) (r : Env) (d : D) : Option Sl → Env
  | some (.ow p _ _) => r.set i (.va p d)
  | _ => r
@[simp] theorem wbO_va (i : Nat) (r : Env) (d : D) (p : Bool) (e : D) : wbO i r d (some (.va p e)) = r := rfl
@[simp] theorem wbO_ow (i : Nat) (r : Env) (d : D) (p l : Bool) (e : D) : wbO i r d (some (.ow p l e)) = r.set i (.ow p l d) := rfl
@[simp] theorem wbV_va (i : Nat) (r : Env) (d : D) (p : Bool) (e : D) : wbV i r d (some (.va p e)) = r := rfl
@[simp] theorem wbV_ow (i : Nat) (r : Env) (d : D) (p l : Bool) (e : D) : wbV i r d (some (.ow p l e)) = r.set i (.va p d) := rfl
@[simp] theorem wb1_slo (r : Env) (i : Nat) (p l : Bool) (d : D) : wb1 r (.sl i) (.ow p l d) = wbO i r d r[i]? := by unfold wb1 wbO; rfl
@[simp] theorem wb1_slv (r : Env) (i : Nat) (p : Bool) (d : D) : wb1 r (.sl i) (.va p d) = wbV i r d r[i]? := by unfold wb1 wbV; rfl
def toldK (w : Str) (kf : Str → Option Str) : Out R → Out R
  | .ok x r1 => (match esc r1 x with
    | some (z, r2) => .ok (.va (.tuple [.str w, z])) r2
    | none => .bad)
  | .ex e r1 => (match kf e.cls with
    | some k => .ok (.va (.tuple [.str k])) r1
    | none => .bad)
  | .bad => .bad
@[simp] theorem x_told (w : Str) (kf : Str → Option Str) (d : DE) (r : Env) : dTold w kf d r = toldK w kf (d r) := by unfold dTold toldK; rfl
@[simp] theorem toldK_va (w : Str) (kf : Str → Option Str) (d : D) (r : Env) : toldK w kf (.ok (.va d) r) = .ok (.va (.tuple [.str w, d])) r := of_eq_true (eq_true rfl)
@[simp] theorem toldK_nw (w : Str) (kf : Str → Option Str) (d : D) (r : Env) : toldK w kf (.ok (.nw d) r) = .ok (.va (.tuple [.str w, d])) r := of_eq_true (eq_true rfl)
theorem toldK_ex {w : Str} {kf : Str → Option Str} {c : Str} {as : List D} {r : Env} {k : Str} (h : kf c = some k) : toldK w kf (.ex ⟨c, as⟩ r) = .ok (.va (.tuple [.str k])) r := by
  simp only [toldK, h]
@[simp] theorem x_next (r : Env) : sNext r = .nx r := of_eq_true (eq_true rfl)
@[simp] theorem x_break (r : Env) : sBreak r = .bk r := of_eq_true (eq_true rfl)
@[simp] theorem x_cont (r : Env) : sCont r = .ct r := of_eq_true (eq_true rfl)
@[simp] theorem x_retN (r : Env) : sRetN r = .rt (.va .none) r := of_eq_true (eq_true rfl)
@[simp] theorem x_raise (c : Str) (r : Env) : sRaise c r = .ex ⟨c, []⟩ r := of_eq_true (eq_true rfl)
def kSif (a b : DS) : Bool → Env → SOut := fun c r1 => if c = true then a r1 else b r1
@[simp] theorem kSif_at (a b : DS) (c : Bool) (r1 : Env) : kSif a b c r1 = if c = true then a r1 else b r1 := of_eq_true (eq_true rfl)
@[simp] theorem x_sif (t : DT) (a b : DS) (r : Env) : sIf t a b r = (t r).st (kSif a b) := of_eq_true (eq_true rfl)
def kDrop  : R → Env → SOut := fun x r1 => .nx r1
@[simp] theorem kDrop_at  (x : R) (r1 : Env) : kDrop  x r1 = .nx r1 := of_eq_true (eq_true rfl)
@[simp] theorem x_drop (e : DE) (r : Env) : sDrop e r = (e r).st kDrop := of_eq_true (eq_true rfl)
def kRet  : R → Env → SOut := fun x r1 => .rt x r1
@[simp] theorem kRet_at  (x : R) (r1 : Env) : kRet  x r1 = .rt x r1 := of_eq_true (eq_true rfl)
@[simp] theorem x_ret (e : DE) (r : Env) : sRet e r = (e r).st kRet := of_eq_true (eq_true rfl)
@[simp] theorem nxt_some (r : Env) : nxt (some r) = .nx r := of_eq_true (eq_true rfl)
def asgK (m : Bool) (i : Nat) (r1 : Env) (x : R) : SOut := match x, m with
  | .nw d, true => nxt (store i (.ow false false d) r1)
  | x, _ => nxt ((esc r1 x).bind fun (d, r2) => store i (.va false d) r2)
def kAsg (m : Bool) (i : Nat) : R → Env → SOut := fun x r1 => asgK m i r1 x
@[simp] theorem kAsg_at (m : Bool) (i : Nat) (x : R) (r1 : Env) : kAsg m i x r1 = asgK m i r1 x := of_eq_true (eq_true rfl)
@[simp] theorem x_asg (m : Bool) (i : Nat) (e : DE) (r : Env) : sAsg m i e r = (e r).st (kAsg m i) := of_eq_true (eq_true rfl)
@[simp] theorem asgK_nw (i : Nat) (r : Env) (d : D) : asgK true i r (.nw d) = nxt (store i (.ow false false d) r) := of_eq_true (eq_true rfl)
@[simp] theorem asgK_nwf (i : Nat) (r : Env) (d : D) : asgK false i r (.nw d) = nxt (store i (.va false d) r) := of_eq_true (eq_true rfl)
@[simp] theorem asgK_va (m : Bool) (i : Nat) (r : Env) (d : D) : asgK m i r (.va d) = nxt (store i (.va false d) r) := of_eq_true (eq_true rfl)
def stK (i : Nat) : Option (D × Env) → SOut
  | some (d, r2) => nxt (store i (.va false d) r2)
  | none => .bad
@[simp] theorem stK_some (i : Nat) (d : D) (r : Env) : stK i (some (d, r)) = nxt (store i (.va false d) r) := of_eq_true (eq_true rfl)
@[simp] theorem asgK_sl (m : Bool) (i j : Nat) (r : Env) : asgK m i r (.sl j) = stK i (esc r (.sl j)) := by
  show nxt ((esc r (.sl j)).bind fun (d, r2) => store i (.va false d) r2) = _
  cases esc r (.sl j) <;> rfl
def patK (p : Pat) : Option (D × Env) → SOut
  | some (d, r2) => nxt (put p d r2)
  | none => .bad
@[simp] theorem patK_some (p : Pat) (d : D) (r : Env) : patK p (some (d, r)) = nxt (put p d r) := of_eq_true (eq_true rfl)
def kPat (p : Pat) : R → Env → SOut := fun x r1 => patK p (esc r1 x)
@[simp] theorem kPat_at (p : Pat) (x : R) (r1 : Env) : kPat p x r1 = patK p (esc r1 x) := of_eq_true (eq_true rfl)
@[simp] theorem x_pat (p : Pat) (e : DE) (r : Env) : sPat p e r = (e r).st (kPat p) := by
  unfold sPat
  cases e r with
  | ok x r1 => rw [st_ok, st_ok, kPat_at]; cases esc r1 x <;> rfl
  | ex e r1 => rfl
  | bad => rfl
def chgK (i : Nat) (f : D → Option D) (r : Env) : Option Sl → Option Env
  | some (.ow p false d) => (f d).map fun d' => r.set i (.ow p false d')
  | _ => none
@[simp] theorem x_chg (i : Nat) (f : D → Option D) (r : Env) : chg i f r = chgK i f r r[i]? := of_eq_true (eq_true rfl)
@[simp] theorem chgK_ow (i : Nat) (f : D → Option D) (r : Env) (p : Bool) (d : D) : chgK i f r (some (.ow p false d)) = (f d).map fun d' => r.set i (.ow p false d') := rfl
def mutC (i : Nat) (p : Bool) (r : Env) : Option (D × D) → Out R
  | some (o', res) => .ok (.va res) (r.set i (.ow p false o'))
  | none => .bad
@[simp] theorem mutC_some (i : Nat) (p : Bool) (r : Env) (o res : D) : mutC i p r (some (o, res)) = .ok (.va res) (r.set i (.ow p false o)) := of_eq_true (eq_true rfl)
def mutB (i : Nat) (g : D → List D → Option (D × D)) (ds : List D) (r : Env) : Option Sl → Out R
  | some (.ow p false o) => mutC i p r (g o ds)
  | _ => .bad
@[simp] theorem mutB_ow (i : Nat) (g : D → List D → Option (D × D)) (ds : List D) (r : Env) (p : Bool) (o : D) : mutB i g ds r (some (.ow p false o)) = mutC i p r (g o ds) := of_eq_true (eq_true rfl)
def kMut (i : Nat) (g : D → List D → Option (D × D)) : List D → Env → Out R := fun ds r1 => mutB i g ds r1 r1[i]?
@[simp] theorem kMut_at (i : Nat) (g : D → List D → Option (D × D)) (ds : List D) (r1 : Env) : kMut i g ds r1 = mutB i g ds r1 r1[i]? := of_eq_true (eq_true rfl)
def mutA (i : Nat) (g : D → List D → Option (D × D)) (t : DA) (r : Env) : Option Sl → Out R
  | some (.ow _ _ (.list _)) => (t r).bind (kMut i g)
  | _ => .bad
@[simp] theorem mutA_ow (i : Nat) (g : D → List D → Option (D × D)) (t : DA) (r : Env) (p l : Bool) (xs : List D) : mutA i g t r (some (.ow p l (.list xs))) = (t r).bind (kMut i g) := of_eq_true (eq_true rfl)
@[simp] theorem x_mut (i : Nat) (g : D → List D → Option (D × D)) (t : DA) (r : Env) : dMut i g t r = mutA i g t r r[i]? := by
  unfold dMut mutA
  cases r[i]? with
  | none => rfl
  | some s =>
    cases s with
    | un => rfl
    | va p d => rfl
    | ow p l d => cases d <;> rfl
theorem gAppend_l {xs : List D} {d : D} (h : xs.length < lim) : gAppend (.list xs) [d] = some (.list (xs ++ [d]), .none) := if_pos h
def kSub2 (i : Nat) (f : D → D → D → Option D) (d : D) : R → Env → SOut := fun y r3 => nxt ((der r3 y).bind fun kd => chg i (fun o => f o kd d) r3)
@[simp] theorem kSub2_at (i : Nat) (f : D → D → D → Option D) (d : D) (y : R) (r3 : Env) : kSub2 i f d y r3 = nxt ((der r3 y).bind fun kd => chg i (fun o => f o kd d) r3) := of_eq_true (eq_true rfl)
def subC (i : Nat) (f : D → D → D → Option D) (k : DE) (d : D) (r2 : Env) : Option Sl → SOut
  | some (.ow _ _ _) => (k r2).st (kSub2 i f d)
  | _ => .bad
@[simp] theorem subC_ow (i : Nat) (f : D → D → D → Option D) (k : DE) (d : D) (r2 : Env) (p l : Bool) (o : D) : subC i f k d r2 (some (.ow p l o)) = (k r2).st (kSub2 i f d) := of_eq_true (eq_true rfl)
def subB (i : Nat) (f : D → D → D → Option D) (k : DE) : Option (D × Env) → SOut
  | some (d, r2) => subC i f k d r2 r2[i]?
  | none => .bad
@[simp] theorem subB_some (i : Nat) (f : D → D → D → Option D) (k : DE) (d : D) (r2 : Env) : subB i f k (some (d, r2)) = subC i f k d r2 r2[i]? := of_eq_true (eq_true rfl)
def kSub1 (i : Nat) (f : D → D → D → Option D) (k : DE) : R → Env → SOut := fun x r1 => subB i f k (esc r1 x)
@[simp] theorem kSub1_at (i : Nat) (f : D → D → D → Option D) (k : DE) (x : R) (r1 : Env) : kSub1 i f k x r1 = subB i f k (esc r1 x) := of_eq_true (eq_true rfl)
@[simp] theorem x_sub (i : Nat) (f : D → D → D → Option D) (k e : DE) (r : Env) : sSub i f k e r = (e r).st (kSub1 i f k) := by
  unfold sSub
  cases e r with
  | ok x r1 =>
    rw [st_ok, st_ok, kSub1_at]
    cases esc r1 x <;> rfl
  | ex e r1 => rfl
  | bad => rfl
theorem fSetL_nat {os : List D} {k : Int} {d : D} (h0 : 0 ≤ k) (h : k < os.length) : fSetL (.list os) (.int k) d = some (.list (os.set k.toNat d)) := by
  have : L2.ixN os.length k = some k.toNat := by
    unfold L2.ixN
    rw [if_pos h0, if_pos h]
  simp only [fSetL, this, Option.map_some]
@[simp] theorem der_va (r : Env) (d : D) : der r (.va d) = some d := rfl
@[simp] theorem der_nw (r : Env) (d : D) : der r (.nw d) = some d := rfl
def derK : Option Sl → Option D
  | some (.ow _ _ d) => some d
  | some (.va _ d) => some d
  | _ => none
@[simp] theorem derK_va (p : Bool) (d : D) : derK (some (.va p d)) = some d := rfl
@[simp] theorem derK_ow (p l : Bool) (d : D) : derK (some (.ow p l d)) = some d := rfl
@[simp] theorem der_sl (r : Env) (i : Nat) : der r (.sl i) = derK r[i]? := rfl
@[simp] theorem esc_va (r : Env) (d : D) : esc r (.va d) = some (d, r) := rfl
@[simp] theorem esc_nw (r : Env) (d : D) : esc r (.nw d) = some (d, r) := rfl
def escS (i : Nat) (r : Env) : Option Sl → Option (D × Env)
  | some (.ow p false d) => some (d, r.set i (.va p d))
  | some (.va _ d) => some (d, r)
  | _ => none
@[simp] theorem escS_va (i : Nat) (r : Env) (p : Bool) (d : D) : escS i r (some (.va p d)) = some (d, r) := rfl
@[simp] theorem escS_ow (i : Nat) (r : Env) (p : Bool) (d : D) : escS i r (some (.ow p false d)) = some (d, r.set i (.va p d)) := rfl
@[simp] theorem esc_sl (r : Env) (i : Nat) : esc r (.sl i) = escS i r r[i]? := rfl
@[simp] theorem ders_nil (r : Env) : ders r [] = some [] := rfl
@[simp] theorem ders_cons (r : Env) (x : R) (xs : List R) : ders r (x :: xs) = (der r x).bind fun d => (ders r xs).bind fun ds => some (d :: ds) := rfl
def storeK (i : Nat) (s : Sl) (r : Env) : Option Sl → Option Env
  | some .un => some (r.set i s)
  | some (.va false _) => some (r.set i s)
  | some (.ow false false _) => some (r.set i s)
  | _ => none
@[simp] theorem x_store (i : Nat) (s : Sl) (r : Env) : store i s r = storeK i s r r[i]? := of_eq_true (eq_true rfl)
@[simp] theorem storeK_un (i : Nat) (s : Sl) (r : Env) : storeK i s r (some .un) = some (r.set i s) := rfl
@[simp] theorem storeK_va (i : Nat) (s : Sl) (r : Env) (d : D) : storeK i s r (some (.va false d)) = some (r.set i s) := rfl
@[simp] theorem storeK_ow (i : Nat) (s : Sl) (r : Env) (d : D) : storeK i s r (some (.ow false false d)) = some (r.set i s) := rfl
/-- a slot that may be written -/
def Stb : Sl → Prop
  | .un => True
  | .va false _ => True
  | .ow false false _ => True
  | _ => False
@[simp] theorem stb_un : Stb .un := trivial
@[simp] theorem stb_va (d : D) : Stb (.va false d) := trivial
@[simp] theorem stb_ow (d : D) : Stb (.ow false false d) := trivial
theorem storeK_stb {t : Sl} (k : Stb t) (i : Nat) (s : Sl) (r : Env) : storeK i s r (some t) = some (r.set i s) := by
  cases t with
  | un => rfl
  | va p d => cases p <;> first | rfl | exact k.elim
  | ow p l d => cases p <;> cases l <;> first | rfl | exact k.elim
@[simp] theorem put_v (i : Nat) (d : D) (r : Env) : put (.v i) d r = store i (.va false d) r := by unfold put; rfl
@[simp] theorem put_t (ps : List Pat) (ds : List D) (r : Env) : put (.t ps) (.tuple ds) r = puts ps ds r := by unfold put; rfl
@[simp] theorem puts_nil (r : Env) : puts [] [] r = some r := by unfold puts; rfl
def putsK (ps : List Pat) (ds : List D) : Option Env → Option Env
  | some r => puts ps ds r
  | none => none
@[simp] theorem putsK_some (ps : List Pat) (ds : List D) (r : Env) : putsK ps ds (some r) = puts ps ds r := of_eq_true (eq_true rfl)
@[simp] theorem puts_cons (p : Pat) (ps : List Pat) (d : D) (ds : List D) (r : Env) : puts (p :: ps) (d :: ds) r = putsK ps ds (put p d r) := by
  conv => lhs; unfold puts
  cases put p d r <;> rfl
@[simp] theorem inn_va (p : Bool) (d : D) : inn (.va p d) = .va false d := rfl
@[simp] theorem inn_ow (p l : Bool) (d : D) : inn (.ow p l d) = .ow true l d := rfl
@[simp] theorem outs_nil (r : Env) : outs [] r = [] := by unfold outs; rfl
@[simp] theorem outs_cons (a : Sl) (as : List Sl) (s : Sl) (r : Env) : outs (a :: as) (s :: r) = outs1 a s :: outs as r := by simp only [outs]
@[simp] theorem outs1_va (p : Bool) (d : D) (s : Sl) : outs1 (.va p d) s = .va p d := by unfold outs1; rfl
@[simp] theorem outs1_ow (p l p' l' : Bool) (d d' : D) : outs1 (.ow p l d) (.ow p' l' d') = .ow p l d' := rfl
@[simp] theorem outs1_owva (p l p' : Bool) (d d' : D) : outs1 (.ow p l d) (.va p' d') = .va p d' := rfl
@[simp] theorem asB_b (b : Bool) : asB (.bool b) = some b := rfl
@[simp] theorem asI_i (i : Int) : asI (.int i) = some i := rfl
@[simp] theorem truth_b (b : Bool) : truth (.bool b) = some b := rfl
@[simp] theorem truth_i (i : Int) : truth (.int i) = some (i != 0) := rfl
@[simp] theorem items_l (xs : List D) : items (.list xs) = some xs := rfl
@[simp] theorem items_t (xs : List D) : items (.tuple xs) = some xs := rfl
@[simp] theorem fAdd_i (i j : Int) : fAdd (.int i) (.int j) = some (.va (.int (i + j))) := rfl
theorem fAdd_l {xs ys : List D} (h : xs.length + ys.length ≤ lim) : fAdd (.list xs) (.list ys) = some (.nw (.list (xs ++ ys))) := if_pos h
theorem fAdd_t {xs ys : List D} (h : xs.length + ys.length ≤ lim) : fAdd (.tuple xs) (.tuple ys) = some (.va (.tuple (xs ++ ys))) := if_pos h
@[simp] theorem fSub_i (i j : Int) : fSub (.int i) (.int j) = some (.va (.int (i - j))) := rfl
@[simp] theorem fNeg_i (i : Int) : fNeg (.int i) = some (.va (.int (-i))) := rfl
theorem fMul_i {i j : Int} (h : i.natAbs < 18446744073709551616 ∨ j.natAbs < 18446744073709551616) : fMul (.int i) (.int j) = some (.va (.int (i * j))) := by
  refine if_pos ?_
  simp only [mulOk, Bool.or_eq_true, decide_eq_true_eq]
  exact .inl h
theorem fFdiv_i {i j : Int} (h : 0 < j ∧ j < 1073741824) : fFdiv (.int i) (.int j) = some (.va (.int (i / j))) := by
  show (iFdiv i j).map _ = _
  unfold iFdiv
  rw [if_pos ⟨by omega, by omega⟩, Int.fdiv_eq_ediv_of_nonneg i (by omega)]
  rfl
theorem fMod_i {i j : Int} (h : 0 < j) : fMod (.int i) (.int j) = some (.va (.int (i % j))) := by
  show (iMod i j).map _ = _
  unfold iMod
  rw [if_pos (by omega), Int.fmod_eq_emod_of_nonneg i (by omega)]
  rfl
@[simp] theorem fEq_i (i j : Int) : fEq (.int i) (.int j) = some (.va (.bool (decide (i = j)))) := rfl
@[simp] theorem fEq_s (i j : Str) : fEq (.str i) (.str j) = some (.va (.bool (decide (i = j)))) := rfl
@[simp] theorem fEq_b (i j : Bool) : fEq (.bool i) (.bool j) = some (.va (.bool (decide (i = j)))) := rfl
@[simp] theorem fNe_i (i j : Int) : fNe (.int i) (.int j) = some (.va (.bool (!decide (i = j)))) := rfl
@[simp] theorem fLt_i (i j : Int) : fLt (.int i) (.int j) = some (.va (.bool (decide (i < j)))) := rfl
@[simp] theorem fLe_i (i j : Int) : fLe (.int i) (.int j) = some (.va (.bool (decide (i ≤ j)))) := rfl
@[simp] theorem fGt_i (i j : Int) : fGt (.int i) (.int j) = some (.va (.bool (decide (j < i)))) := rfl
@[simp] theorem fGe_i (i j : Int) : fGe (.int i) (.int j) = some (.va (.bool (decide (j ≤ i)))) := rfl
@[simp] theorem f1_x (f : D → Option R) (d : D) : f1 f [d] = f d := rfl
@[simp] theorem gLen_l (ds : List D) : gLen (.list ds) = some (.va (.int ds.length)) := rfl
@[simp] theorem gLen_t (ds : List D) : gLen (.tuple ds) = some (.va (.int ds.length)) := rfl
@[simp] theorem gAbs_i (i : Int) : gAbs (.int i) = some (.va (.int i.natAbs)) := rfl
@[simp] theorem gInt_i (i : Int) : gInt (.int i) = some (.va (.int i)) := rfl
@[simp] theorem gInt_b (b : Bool) : gInt (.bool b) = some (.va (.int (if b = true then 1 else 0))) := rfl
@[simp] theorem gTuple_l (ds : List D) : gTuple (.list ds) = some (.va (.tuple ds)) := rfl
@[simp] theorem gTuple_t (ds : List D) : gTuple (.tuple ds) = some (.va (.tuple ds)) := rfl
@[simp] theorem gList_l (ds : List D) : gList (.list ds) = some (.nw (.list ds)) := rfl
@[simp] theorem gList_t (ds : List D) : gList (.tuple ds) = some (.nw (.list ds)) := rfl
@[simp] theorem fMin_ij (i j : Int) : fMin [.int i, .int j] = some (.va (.int (if j < i then j else i))) := rfl
@[simp] theorem fMax_ij (i j : Int) : fMax [.int i, .int j] = some (.va (.int (if j > i then j else i))) := rfl
theorem asInts_map (ns : List Int) : asInts (ns.map PyData.int) = some ns := by
  induction ns with
  | nil => rfl
  | cons n ns ih => simp only [List.map_cons, asInts, ih, Option.map_some]
theorem asBools_map (ns : List Bool) : asBools (ns.map PyData.bool) = some ns := by
  induction ns with
  | nil => rfl
  | cons n ns ih => simp only [List.map_cons, asBools, ih, Option.map_some]
theorem asInts_mapf {α : Type} (f : α → Int) (xs : List α) : asInts (xs.map fun x => PyData.int (f x)) = some (xs.map f) := by
  rw [← asInts_map (xs.map f), List.map_map]
  rfl
theorem asBools_mapf {α : Type} (f : α → Bool) (xs : List α) : asBools (xs.map fun x => PyData.bool (f x)) = some (xs.map f) := by
  rw [← asBools_map (xs.map f), List.map_map]
  rfl
@[simp] theorem gAll_m {α : Type} (f : α → Bool) (xs : List α) : gAll (.list (xs.map fun x => PyData.bool (f x))) = some (.va (.bool (xs.all f))) := by
  simp only [gAll, items_l, Option.bind_some, asBools_mapf, Option.map_some, List.all_map, Function.comp_def, id]
@[simp] theorem gAny_m {α : Type} (f : α → Bool) (xs : List α) : gAny (.list (xs.map fun x => PyData.bool (f x))) = some (.va (.bool (xs.any f))) := by
  simp only [gAny, items_l, Option.bind_some, asBools_mapf, Option.map_some, List.any_map, Function.comp_def, id]
@[simp] theorem gSum_m {α : Type} (f : α → Int) (xs : List α) : gSum (.list (xs.map fun x => PyData.int (f x))) = some (.va (.int (xs.map f).sum)) := by
  simp only [gSum, items_l, Option.bind_some, asInts_mapf, Option.map_some]
@[simp] theorem gSum_mt {α : Type} (f : α → Int) (xs : List α) : gSum (.tuple (xs.map fun x => PyData.int (f x))) = some (.va (.int (xs.map f).sum)) := by
  simp only [gSum, items_t, Option.bind_some, asInts_mapf, Option.map_some]
@[simp] theorem gSum_l (ns : List Int) : gSum (.list (ns.map PyData.int)) = some (.va (.int ns.sum)) := by simp only [gSum, items_l, Option.bind_some, asInts_map, Option.map_some]
@[simp] theorem gSum_t (ns : List Int) : gSum (.tuple (ns.map PyData.int)) = some (.va (.int ns.sum)) := by simp only [gSum, items_t, Option.bind_some, asInts_map, Option.map_some]
theorem gAll_l (ns : List Bool) : gAll (.list (ns.map PyData.bool)) = some (.va (.bool (ns.all id))) := by simp only [gAll, items_l, Option.bind_some, asBools_map, Option.map_some]
theorem gAny_l (ns : List Bool) : gAny (.list (ns.map PyData.bool)) = some (.va (.bool (ns.any id))) := by simp only [gAny, items_l, Option.bind_some, asBools_map, Option.map_some]
theorem fIx_l {xs : List D} {i : Int} {d : D} (h0 : 0 ≤ i) (h : xs[i.toNat]? = some d) : fIx (.list xs) (.int i) = some (.va d) := by
  have hi : i.toNat < xs.length := (List.getElem?_eq_some_iff.mp h).1
  unfold fIx L2.atI L2.ixN
  dsimp only
  rw [if_pos h0, if_pos (by omega), Option.bind_some, h]
  rfl
theorem fIx_t {xs : List D} {i : Int} {d : D} (h0 : 0 ≤ i) (h : xs[i.toNat]? = some d) : fIx (.tuple xs) (.int i) = some (.va d) := by
  have hi : i.toNat < xs.length := (List.getElem?_eq_some_iff.mp h).1
  unfold fIx L2.atI L2.ixN
  dsimp only
  rw [if_pos h0, if_pos (by omega), Option.bind_some, h]
  rfl
/-- items by written places -/
@[simp] theorem fIx_l0 (d : D) (xs : List D) : fIx (.list (d :: xs)) (.int 0) = some (.va d) := fIx_l (by decide) rfl
@[simp] theorem fIx_t0 (d : D) (xs : List D) : fIx (.tuple (d :: xs)) (.int 0) = some (.va d) := fIx_t (by decide) rfl
@[simp] theorem fIx_l1 (c d : D) (xs : List D) : fIx (.list (c :: d :: xs)) (.int 1) = some (.va d) := fIx_l (by decide) rfl
@[simp] theorem fIx_t1 (c d : D) (xs : List D) : fIx (.tuple (c :: d :: xs)) (.int 1) = some (.va d) := fIx_t (by decide) rfl
@[simp] theorem fIx_t2 (b c d : D) (xs : List D) : fIx (.tuple (b :: c :: d :: xs)) (.int 2) = some (.va d) := fIx_t (by decide) rfl
@[simp] theorem fIx_t3 (a b c d : D) (xs : List D) : fIx (.tuple (a :: b :: c :: d :: xs)) (.int 3) = some (.va d) := fIx_t (by decide) rfl
open L2 in
theorem atI_nat {α : Type} {xs : List α} {i : Int} {x : α} (h0 : 0 ≤ i) (h : xs[i.toNat]? = some x) : atI xs i = some x := by
  have hi : i.toNat < xs.length := (List.getElem?_eq_some_iff.mp h).1
  unfold atI ixN
  rw [if_pos h0, if_pos (by omega)]
  exact h
open L2 in
theorem ixN_nat {n : Nat} {i : Int} (h0 : 0 ≤ i) (h : i < n) : ixN n i = some i.toNat := by
  unfold ixN
  rw [if_pos h0, if_pos h]
end SE
set_option Elab.async false
set_option linter.all false
set_option maxRecDepth 100000
set_option maxHeartbeats 1000000
namespace SE
open PySem
/-- what a turn's end gives: J: the next turn, Q: behind the loop -/
def Trn (J : Env → Prop) (Q : SOut → Prop) : SOut → Prop
  | .nx r => J r
  | .ct r => J r
  | .bk r => Q (.nx r)
  | .rt v r => Q (.rt v r)
  | .ex e r => Q (.ex e r)
  | .bad => False
@[simp] theorem trn_nx (J : Env → Prop) (Q : SOut → Prop) (r : Env) : Trn J Q (.nx r) = J r := of_eq_true (eq_true rfl)
@[simp] theorem trn_ct (J : Env → Prop) (Q : SOut → Prop) (r : Env) : Trn J Q (.ct r) = J r := of_eq_true (eq_true rfl)
@[simp] theorem trn_bk (J : Env → Prop) (Q : SOut → Prop) (r : Env) : Trn J Q (.bk r) = Q (.nx r) := of_eq_true (eq_true rfl)
@[simp] theorem trn_rt (J : Env → Prop) (Q : SOut → Prop) (v : R) (r : Env) : Trn J Q (.rt v r) = Q (.rt v r) := of_eq_true (eq_true rfl)
@[simp] theorem trn_ex (J : Env → Prop) (Q : SOut → Prop) (v : Exn) (r : Env) : Trn J Q (.ex v r) = Q (.ex v r) := of_eq_true (eq_true rfl)
/-- a turn: the item is put, the body is run -/
def turnK (b : DS) : Option Env → SOut
  | some r => b r
  | none => .bad
@[simp] theorem turnK_some (b : DS) (r : Env) : turnK b (some r) = b r := of_eq_true (eq_true rfl)
/-- behind a turn -/
def forN (p : Pat) (b : DS) (ds : List D) : SOut → SOut
  | .nx r2 => forL p b ds r2
  | .ct r2 => forL p b ds r2
  | .bk r2 => .nx r2
  | .rt v r2 => .rt v r2
  | .ex e r2 => .ex e r2
  | .bad => .bad
@[simp] theorem forN_nx (p : Pat) (b : DS) (ds : List D) (r : Env) : forN p b ds (.nx r) = forL p b ds r := of_eq_true (eq_true rfl)
@[simp] theorem forN_ct (p : Pat) (b : DS) (ds : List D) (r : Env) : forN p b ds (.ct r) = forL p b ds r := of_eq_true (eq_true rfl)
@[simp] theorem forN_bk (p : Pat) (b : DS) (ds : List D) (r : Env) : forN p b ds (.bk r) = .nx r := of_eq_true (eq_true rfl)
@[simp] theorem forN_rt (p : Pat) (b : DS) (ds : List D) (v : R) (r : Env) : forN p b ds (.rt v r) = .rt v r := of_eq_true (eq_true rfl)
@[simp] theorem forN_ex (p : Pat) (b : DS) (ds : List D) (e : Exn) (r : Env) : forN p b ds (.ex e r) = .ex e r := of_eq_true (eq_true rfl)
theorem forL_n (p : Pat) (b : DS) (r : Env) : forL p b [] r = .nx r := rfl
theorem forL_c (p : Pat) (b : DS) (d : D) (ds : List D) (r : Env) : forL p b (d :: ds) r = forN p b ds (turnK b (put p d r)) := by
  conv => lhs; unfold forL
  cases put p d r with
  | none => rfl
  | some r1 =>
    rw [turnK_some]
    dsimp only
    cases b r1 <;> rfl
theorem forL_post {p : Pat} {b : DS} {Q : SOut → Prop} (J : List D → Env → Prop) (h : ∀ d ds r, J (d :: ds) r → Trn (J ds) Q (turnK b (put p d r))) (h0 : ∀ r, J [] r → Q (.nx r)) : ∀ (ds : List D) (r : Env), J ds r → Q (forL p b ds r)
  | [], r, hJ => h0 r hJ
  | d :: ds, r, hJ => by
    have h2 := h d ds r hJ
    unfold forL
    cases hp : put p d r with
    | none => rw [hp] at h2; exact h2.elim
    | some r1 =>
    rw [hp, turnK_some] at h2
    dsimp only
    cases hb : b r1 with
    | nx r2 => rw [hb] at h2; exact forL_post J h h0 ds r2 h2
    | ct r2 => rw [hb] at h2; exact forL_post J h h0 ds r2 h2
    | bk r2 => rw [hb] at h2; exact h2
    | rt v r2 => rw [hb] at h2; exact h2
    | ex e r2 => rw [hb] at h2; exact h2
    | bad => rw [hb] at h2; exact h2.elim
/-- a loop that goes through: a fold -/
theorem forL_fold {α : Type} {p : Pat} {b : DS} (en : α → D) {S : Type} (E : S → Env) (I : S → Prop) (g : S → α → S) (xs : List α) (h : ∀ s x, I s → x ∈ xs → turnK b (put p (en x) (E s)) = .nx (E (g s x)) ∧ I (g s x)) :
    ∀ (s : S), I s → forL p b (xs.map en) (E s) = .nx (E (xs.foldl g s)) ∧ I (xs.foldl g s) := by
  induction xs with
  | nil => exact fun s hs => ⟨rfl, hs⟩
  | cons x xs ih =>
    intro s hs
    obtain ⟨h2, h3⟩ := h s x hs List.mem_cons_self
    have := ih (fun s y hs hy => h s y hs (List.mem_cons_of_mem _ hy)) (g s x) h3
    rw [List.map_cons, List.foldl_cons]
    refine ⟨?_, this.2⟩
    unfold forL
    cases hp : put p (en x) (E s) with
    | none => rw [hp] at h2; cases h2
    | some r1 =>
    rw [hp, turnK_some] at h2
    dsimp only
    rw [h2]
    exact this.1
theorem whileL_post {t : DT} {b : DS} {Q : SOut → Prop} (J : Nat → Env → Prop) (h : ∀ n r, J n r → (∃ r1, t r = .ok false r1 ∧ Q (.nx r1)) ∨ ∃ m r1, n = m + 1 ∧ t r = .ok true r1 ∧ Trn (J m) Q (b r1)) : ∀ (n k : Nat) (r : Env), n < k → J n r → Q (whileL t b k r)
  | n, 0, r, hk, _ => by omega
  | n, k + 1, r, hk, hJ => by
    unfold whileL
    rcases h n r hJ with ⟨r1, h1, h2⟩ | ⟨m, r1, e, h1, h2⟩
    · rw [h1]; exact h2
    · rw [h1]
      dsimp only
      cases hb : b r1 with
      | nx r2 => rw [hb] at h2; exact whileL_post J h m k r2 (by omega) h2
      | ct r2 => rw [hb] at h2; exact whileL_post J h m k r2 (by omega) h2
      | bk r2 => rw [hb] at h2; exact h2
      | rt v r2 => rw [hb] at h2; exact h2
      | ex e r2 => rw [hb] at h2; exact h2
      | bad => rw [hb] at h2; exact h2.elim
theorem sWhile_post {t : DT} {b : DS} {r : Env} {Q : SOut → Prop} (J : Nat → Env → Prop) (h : ∀ n r, J n r → (∃ r1, t r = .ok false r1 ∧ Q (.nx r1)) ∨ ∃ m r1, n = m + 1 ∧ t r = .ok true r1 ∧ Trn (J m) Q (b r1)) (n : Nat) (hn : n < 1000000000) (hJ : J n r) : Q (sWhile t b r) :=
  whileL_post J h n turns r hn hJ
def forK (p : Pat) (b : DS) : Out (List D × Option Nat) → SOut
  | .ok (ds, lk) r1 => (forL p b ds (lock lk r1)).map (unlock lk)
  | .ex e r1 => .ex e r1
  | .bad => .bad
@[simp] theorem x_for (it : DI) (p : Pat) (b : DS) (r : Env) : sFor it p b r = forK p b (it r) := by
  unfold sFor forK
  cases it r <;> rfl
theorem map_id (o : SOut) : o.map (unlock none) = o := by cases o <;> rfl
@[simp] theorem forK_none (p : Pat) (b : DS) (ds : List D) (r : Env) : forK p b (.ok (ds, none) r) = forL p b ds r := by
  show (forL p b ds (lock none r)).map (unlock none) = _
  rw [map_id]
  rfl
@[simp] theorem map_nx (f : Env → Env) (r : Env) : (SOut.nx r).map f = .nx (f r) := of_eq_true (eq_true rfl)
@[simp] theorem map_rt (f : Env → Env) (v : R) (r : Env) : (SOut.rt v r).map f = .rt v (f r) := of_eq_true (eq_true rfl)
theorem forK_some (p : Pat) (b : DS) (ds : List D) (i : Nat) (r : Env) : forK p b (.ok (ds, some i) r) = (forL p b ds (lock (some i) r)).map (unlock (some i)) := rfl
def lockK (i : Nat) (r : Env) (b : Bool) : Option Sl → Env
  | some (.ow p _ d) => r.set i (.ow p b d)
  | _ => r
@[simp] theorem lock_some (i : Nat) (r : Env) : lock (some i) r = lockK i r true r[i]? := by
  unfold lock lockK
  all_goals (try dsimp only)
  all_goals (cases r[i]? with
    | none => rfl
    | some s => cases s <;> rfl)
@[simp] theorem unlock_some (i : Nat) (r : Env) : unlock (some i) r = lockK i r false r[i]? := by
  unfold unlock lockK
  all_goals (try dsimp only)
  all_goals (cases r[i]? with
    | none => rfl
    | some s => cases s <;> rfl)
@[simp] theorem lockK_ow (i : Nat) (r : Env) (b p l : Bool) (d : D) : lockK i r b (some (.ow p l d)) = r.set i (.ow p b d) := of_eq_true (eq_true rfl)
def seqS (i : Nat) (r1 : Env) : Option Sl → Out (List D × Option Nat)
  | some (.ow _ false d) => match items d with
    | some ds => .ok (ds, some i) r1
    | none => .bad
  | some (.ow _ true d) => match items d with
    | some ds => .ok (ds, none) r1
    | none => .bad
  | some (.va _ d) => match items d with
    | some ds => .ok (ds, none) r1
    | none => .bad
  | _ => .bad
def seqK (r1 : Env) : R → Out (List D × Option Nat)
  | .sl i => seqS i r1 r1[i]?
  | .va d => match items d with
    | some ds => .ok (ds, none) r1
    | none => .bad
  | .nw d => match items d with
    | some ds => .ok (ds, none) r1
    | none => .bad
def kSeq : R → Env → Out (List D × Option Nat) := fun x r1 => seqK r1 x
@[simp] theorem kSeq_at (x : R) (r1 : Env) : kSeq x r1 = seqK r1 x := of_eq_true (eq_true rfl)
@[simp] theorem x_seqI (a : DE) (r : Env) : iSeq a r = (a r).bind kSeq := by
  unfold iSeq
  cases a r with
  | ok x r1 =>
    rw [bind_ok, bind_ok, kSeq_at]
    cases x with
    | va d => unfold seqK; simp only [der_va, Option.bind_some]; cases items d <;> rfl
    | nw d => unfold seqK; simp only [der_nw, Option.bind_some]; cases items d <;> rfl
    | sl i =>
      unfold seqK
      simp only [der_sl]
      cases r1[i]? with
      | none => rfl
      | some s =>
        cases s with
        | un => rfl
        | va p d => simp only [derK_va, Option.bind_some, seqS]; cases items d <;> rfl
        | ow p l d => cases l <;> simp only [derK_ow, Option.bind_some, seqS] <;> cases items d <;> rfl
  | ex e r1 => rfl
  | bad => rfl
@[simp] theorem seqK_sl (r : Env) (i : Nat) : seqK r (.sl i) = seqS i r r[i]? := of_eq_true (eq_true rfl)
@[simp] theorem seqK_vt (r : Env) (ds : List D) : seqK r (.va (.tuple ds)) = .ok (ds, none) r := of_eq_true (eq_true rfl)
@[simp] theorem seqK_vl (r : Env) (ds : List D) : seqK r (.va (.list ds)) = .ok (ds, none) r := of_eq_true (eq_true rfl)
@[simp] theorem seqK_nl (r : Env) (ds : List D) : seqK r (.nw (.list ds)) = .ok (ds, none) r := of_eq_true (eq_true rfl)
@[simp] theorem seqS_vt (i : Nat) (r : Env) (p : Bool) (ds : List D) : seqS i r (some (.va p (.tuple ds))) = .ok (ds, none) r := of_eq_true (eq_true rfl)
@[simp] theorem seqS_vl (i : Nat) (r : Env) (p : Bool) (ds : List D) : seqS i r (some (.va p (.list ds))) = .ok (ds, none) r := of_eq_true (eq_true rfl)
@[simp] theorem seqS_ow (i : Nat) (r : Env) (p : Bool) (ds : List D) : seqS i r (some (.ow p false (.list ds))) = .ok (ds, some i) r := of_eq_true (eq_true rfl)
@[simp] theorem seqS_lk (i : Nat) (r : Env) (p : Bool) (ds : List D) : seqS i r (some (.ow p true (.list ds))) = .ok (ds, none) r := of_eq_true (eq_true rfl)
def rng1K : Out R → Out (List D × Option Nat)
  | .ok x r1 => (match (der r1 x).bind asI with
    | some n => if -4611686018427387904 ≤ n ∧ n < 4611686018427387904 then .ok (rng 0 n.toNat, none) r1 else .bad
    | none => .bad)
  | .ex e r => .ex e r
  | .bad => .bad
@[simp] theorem x_rng1 (a : DE) (r : Env) : SE.iRng1 a r = rng1K (a r) := by
  unfold SE.iRng1
  cases a r <;> rfl
@[simp] theorem rng1K_ok (n : Int) (r : Env) : rng1K (.ok (.va (.int n)) r) = if -4611686018427387904 ≤ n ∧ n < 4611686018427387904 then .ok (rng 0 n.toNat, none) r else .bad := of_eq_true (eq_true rfl)
def rng2B (m : Int) : Out R → Out (List D × Option Nat)
  | .ok y r2 => (match (der r2 y).bind asI with
    | some n => if (-4611686018427387904 ≤ m ∧ m < 4611686018427387904) ∧ -4611686018427387904 ≤ n ∧ n < 4611686018427387904 then .ok (rng m (n - m).toNat, none) r2 else .bad
    | none => .bad)
  | .ex e r => .ex e r
  | .bad => .bad
@[simp] theorem rng2B_ok (m n : Int) (r : Env) : rng2B m (.ok (.va (.int n)) r) = if (-4611686018427387904 ≤ m ∧ m < 4611686018427387904) ∧ -4611686018427387904 ≤ n ∧ n < 4611686018427387904 then .ok (rng m (n - m).toNat, none) r else .bad := of_eq_true (eq_true rfl)
def rng2A (a b : DE) (r : Env) : Out R → Out (List D × Option Nat)
  | .ok (.va (.int m)) r1 => rng2B m (b r1)
  | _ => SE.iRng2 a b r
@[simp] theorem rng2A_ok (a b : DE) (r : Env) (m : Int) (r1 : Env) : rng2A a b r (.ok (.va (.int m)) r1) = rng2B m (b r1) := of_eq_true (eq_true rfl)
theorem x_rng2 (a b : DE) (r : Env) : SE.iRng2 a b r = rng2A a b r (a r) := by
  unfold rng2A
  split
  · rename_i m r1 h
    unfold SE.iRng2
    rw [h, bind_ok]
    cases b r1 with
    | ok y r2 =>
      rw [bind_ok]
      simp only [der_va, Option.bind_some, asI_i, rng2B]
      cases (der r2 y).bind asI <;> rfl
    | ex e r2 => rfl
    | bad => rfl
  · rfl
def enumS (i : Nat) (r : Env) : Option Sl → Out (List D × Option Nat)
  | some (.ow _ false (.list ds)) => .ok (enumD ds, some i) r
  | some (.ow _ true (.list ds)) => .ok (enumD ds, none) r
  | some (.ow _ _ (.tuple ds)) => .ok (enumD ds, none) r
  | some (.va _ (.list ds)) => .ok (enumD ds, none) r
  | some (.va _ (.tuple ds)) => .ok (enumD ds, none) r
  | _ => .bad
def enumK (r1 : Env) : R → Out (List D × Option Nat)
  | .sl i => enumS i r1 r1[i]?
  | .va (.list ds) => .ok (enumD ds, none) r1
  | .va (.tuple ds) => .ok (enumD ds, none) r1
  | .nw (.list ds) => .ok (enumD ds, none) r1
  | .nw (.tuple ds) => .ok (enumD ds, none) r1
  | _ => .bad
def kEnum : R → Env → Out (List D × Option Nat) := fun x r1 => enumK r1 x
@[simp] theorem kEnum_at (x : R) (r1 : Env) : kEnum x r1 = enumK r1 x := of_eq_true (eq_true rfl)
@[simp] theorem x_enum (e : DE) (r : Env) : iEnumE e r = (e r).bind kEnum := by
  unfold iEnumE
  cases e r with
  | ok x r1 =>
    rw [bind_ok, bind_ok, kEnum_at]
    cases x with
    | va d => unfold seqOf enumK; simp only [der_va]; cases d <;> rfl
    | nw d => unfold seqOf enumK; simp only [der_nw]; cases d <;> rfl
    | sl i =>
      unfold seqOf enumK
      simp only [der_sl]
      cases h : r1[i]? with
      | none => rfl
      | some s =>
        cases s with
        | un => rfl
        | va p d => simp only [derK_va]; cases d <;> rfl
        | ow p l d => simp only [derK_ow]; cases d <;> cases l <;> rfl
  | ex e r1 => rfl
  | bad => rfl
@[simp] theorem enumK_sl (r : Env) (i : Nat) : enumK r (.sl i) = enumS i r r[i]? := of_eq_true (eq_true rfl)
@[simp] theorem enumK_vt (r : Env) (ds : List D) : enumK r (.va (.tuple ds)) = .ok (enumD ds, none) r := of_eq_true (eq_true rfl)
@[simp] theorem enumK_vl (r : Env) (ds : List D) : enumK r (.va (.list ds)) = .ok (enumD ds, none) r := of_eq_true (eq_true rfl)
@[simp] theorem enumK_nl (r : Env) (ds : List D) : enumK r (.nw (.list ds)) = .ok (enumD ds, none) r := of_eq_true (eq_true rfl)
@[simp] theorem enumS_vt (i : Nat) (r : Env) (p : Bool) (ds : List D) : enumS i r (some (.va p (.tuple ds))) = .ok (enumD ds, none) r := of_eq_true (eq_true rfl)
@[simp] theorem enumS_vl (i : Nat) (r : Env) (p : Bool) (ds : List D) : enumS i r (some (.va p (.list ds))) = .ok (enumD ds, none) r := of_eq_true (eq_true rfl)
@[simp] theorem enumS_ow (i : Nat) (r : Env) (p : Bool) (ds : List D) : enumS i r (some (.ow p false (.list ds))) = .ok (enumD ds, some i) r := of_eq_true (eq_true rfl)
@[simp] theorem enumS_lk (i : Nat) (r : Env) (p : Bool) (ds : List D) : enumS i r (some (.ow p true (.list ds))) = .ok (enumD ds, none) r := of_eq_true (eq_true rfl)
def zipK (r1 : Env) : List D → Out (List D × Option Nat)
  | [.list xs, .list ys] => .ok (zipD xs ys, none) r1
  | [.tuple xs, .tuple ys] => .ok (zipD xs ys, none) r1
  | _ => .bad
def kZip : List D → Env → Out (List D × Option Nat) := fun ds r1 => zipK r1 ds
@[simp] theorem kZip_at (ds : List D) (r1 : Env) : kZip ds r1 = zipK r1 ds := of_eq_true (eq_true rfl)
@[simp] theorem x_zip (t : DA) (r : Env) : iZipE t r = (t r).bind kZip := of_eq_true (eq_true rfl)
@[simp] theorem zipK_l (r : Env) (xs ys : List D) : zipK r [.list xs, .list ys] = .ok (zipD xs ys, none) r := of_eq_true (eq_true rfl)
@[simp] theorem zipK_t (r : Env) (xs ys : List D) : zipK r [.tuple xs, .tuple ys] = .ok (zipD xs ys, none) r := of_eq_true (eq_true rfl)
def rng3K (r1 : Env) : List D → Out (List D × Option Nat)
  | [.int i, .int j, .int c] => if rgOk i j c = true then .ok (rngC i c (Builtin.Range.rangeSize i j c).toNat, none) r1 else .bad
  | _ => .bad
def kRng3 : List D → Env → Out (List D × Option Nat) := fun ds r1 => rng3K r1 ds
@[simp] theorem kRng3_at (ds : List D) (r1 : Env) : kRng3 ds r1 = rng3K r1 ds := of_eq_true (eq_true rfl)
@[simp] theorem x_rng3 (t : DA) (r : Env) : iRng3E t r = (t r).bind kRng3 := of_eq_true (eq_true rfl)
/-- range(hi, lo, -1) -/
def downI (hi lo : Int) : List Int := (List.range (hi - lo).toNat).map fun (k : Nat) => hi - (k : Int)
theorem rng3_down {hi lo : Int} (h1 : -1000000000 ≤ lo) (h2 : hi ≤ 1000000000) (h3 : -1000000000 ≤ hi) (h4 : lo ≤ 1000000000) (r : Env) : rng3K r [.int hi, .int lo, .int (-1)] = .ok ((downI hi lo).map PyData.int, none) r := by
  have e : (Builtin.Range.rangeSize hi lo (-1)).toNat = (hi - lo).toNat := by
    unfold Builtin.Range.rangeSize
    rw [if_neg (by decide)]
    by_cases h : hi > lo
    · rw [if_pos h]
      simp only [Int.neg_neg, Int.ediv_one]
      omega
    · rw [if_neg h]
      omega
  have e2 : 0 ≤ Builtin.Range.rangeSize hi lo (-1) := by
    unfold Builtin.Range.rangeSize
    rw [if_neg (by decide)]
    by_cases h : hi > lo
    · rw [if_pos h]
      simp only [Int.neg_neg, Int.ediv_one]
      omega
    · rw [if_neg h]
      omega
  have e4 : Builtin.Range.rangeSize hi lo (-1) ≤ 2000000000 := by
    unfold Builtin.Range.rangeSize
    rw [if_neg (by decide)]
    by_cases h : hi > lo
    · rw [if_pos h]
      simp only [Int.neg_neg, Int.ediv_one]
      omega
    · rw [if_neg h]
      omega
  have fl : ∀ i : Int, -4000000000 ≤ i → i ≤ 4000000000 → Builtin.Range.rangeFitsLong i = true := fun i a b => by
    unfold Builtin.Range.rangeFitsLong
    simp
    omega
  have e3 : Builtin.Range.small hi lo (-1) = true := by
    unfold Builtin.Range.small
    rw [fl hi (by omega) (by omega), fl lo (by omega) (by omega), fl (-1) (by omega) (by omega), fl _ (by omega) (by omega), if_neg (by decide), fl (lo + (-1 + 1)) (by omega) (by omega)]
    simp
  have e5 : rgOk hi lo (-1) = true := by unfold rgOk; simp [e2, e3]
  refine (if_pos e5).trans ?_
  congr 2
  unfold rngC downI
  rw [e, List.map_map]
  apply List.map_congr_left
  intro k _
  simp only [Function.comp_def]
  congr 1
  omega
theorem wipeE_get : ∀ (vs : List Nat) (r : Env) (k : Nat), (wipeE vs r)[k]? = if k ∈ vs ∧ k < r.length then some .un else r[k]?
  | [], r, k => by simp [wipeE]
  | v :: vs, r, k => by
    unfold wipeE
    rw [List.getElem?_set, wipeE_get vs r k, wipeE_len]
    by_cases e : v = k
    · subst e
      by_cases hl : v < r.length
      · simp [hl]
      · simp [hl, List.getElem?_eq_none (Nat.le_of_not_lt hl)]
    · rw [if_neg e]
      have : k ∈ v :: vs ↔ k ∈ vs := by simp [Ne.symm e]
      simp only [this]
theorem wipeE_wipe (vs : List Nat) (r : Env) : wipeE vs (wipeE vs r) = wipeE vs r := by
  apply List.ext_getElem?
  intro k
  rw [wipeE_get, wipeE_get, wipeE_len]
  by_cases h : k ∈ vs ∧ k < r.length
  · rw [if_pos h, if_pos h]
  · rw [if_neg h]
theorem backE_get (r0 : Env) : ∀ (vs : List Nat) (r : Env) (k : Nat), r.length = r0.length → (backE r0 vs r)[k]? = if k ∈ vs then r0[k]? else r[k]?
  | [], r, k, h => by simp [backE]
  | v :: vs, r, k, h => by
    unfold backE
    have ih := backE_get r0 vs r k h
    split
    · rename_i s hs
      have hl : v < r0.length := (List.getElem?_eq_some_iff.mp hs).1
      rw [List.getElem?_set, backE_len, h, ih]
      by_cases e : v = k
      · subst e; simp only [if_true, hl, List.mem_cons_self, hs]
      · have : k ∈ v :: vs ↔ k ∈ vs := by simp [Ne.symm e]
        simp [e, this]
    · rename_i hs
      rw [ih]
      by_cases e : v = k
      · subst e
        have hl : ¬ v < r0.length := fun z => by rw [List.getElem?_eq_getElem z] at hs; cases hs
        have : r[v]? = none := List.getElem?_eq_none (by omega)
        simp [hs, this]
      · have : k ∈ v :: vs ↔ k ∈ vs := by simp [Ne.symm e]
        simp [this]
/-- the run of a comprehension: its items, the state behind -/
def lcRun {S α : Type} (g : S → α → Option D × S) : S → List α → List D × S
  | s, [] => ([], s)
  | s, x :: xs => match (g s x).1 with
    | some z => (z :: (lcRun g (g s x).2 xs).1, (lcRun g (g s x).2 xs).2)
    | none => lcRun g (g s x).2 xs
/-- an element, given away -/
def eltK : Out R → Option (D × Env)
  | .ok x r => esc r x
  | _ => none
@[simp] theorem eltK_ok (x : R) (r : Env) : eltK (.ok x r) = esc r x := of_eq_true (eq_true rfl)
/-- what one item does -/
def lcC (vs : List Nat) (o : Option D) (w' : Env) : Option (D × Env) → Prop
  | some (z, r) => o = some z ∧ wipeE vs r = w'
  | none => False
@[simp] theorem lcC_some (vs : List Nat) (o : Option D) (w' : Env) (z : D) (r : Env) : lcC vs o w' (some (z, r)) = (o = some z ∧ wipeE vs r = w') := of_eq_true (eq_true rfl)
def lcB (vs : List Nat) (e : DE) (o : Option D) (w' : Env) : Out Bool → Prop
  | .ok b r => if b = true then lcC vs o w' (eltK (e r)) else o = none ∧ wipeE vs r = w'
  | _ => False
@[simp] theorem lcB_ok (vs : List Nat) (e : DE) (o : Option D) (w' : Env) (b : Bool) (r : Env) : lcB vs e o w' (.ok b r) = if b = true then lcC vs o w' (eltK (e r)) else o = none ∧ wipeE vs r = w' := of_eq_true (eq_true rfl)
def lcA (vs : List Nat) (t : DT) (e : DE) (o : Option D) (w' : Env) : Option Env → Prop
  | some r => lcB vs e o w' (t r)
  | none => False
@[simp] theorem lcA_some (vs : List Nat) (t : DT) (e : DE) (o : Option D) (w' : Env) (r : Env) : lcA vs t e o w' (some r) = lcB vs e o w' (t r) := of_eq_true (eq_true rfl)
theorem lcA_step {vs : List Nat} {t : DT} {e : DE} {o : Option D} {w' : Env} {x : Option Env} (h : lcA vs t e o w' x) : ∃ r1, x = some r1 ∧ ((∃ r2, o = none ∧ t r1 = .ok false r2 ∧ wipeE vs r2 = w') ∨ ∃ r2 y r3 z r4, o = some z ∧ t r1 = .ok true r2 ∧ e r2 = .ok y r3 ∧ esc r3 y = some (z, r4) ∧ wipeE vs r4 = w') := by
  cases x with
  | none => exact h.elim
  | some r1 =>
    refine ⟨r1, rfl, ?_⟩
    rw [lcA_some] at h
    cases ht : t r1 with
    | ex e1 r2 => rw [ht] at h; exact h.elim
    | bad => rw [ht] at h; exact h.elim
    | ok b r2 =>
      rw [ht, lcB_ok] at h
      cases b with
      | false =>
        rw [if_neg (by decide)] at h
        exact .inl ⟨r2, h.1, rfl, h.2⟩
      | true =>
        rw [if_pos rfl] at h
        cases he : e r2 with
        | ex e1 r3 => rw [he] at h; exact h.elim
        | bad => rw [he] at h; exact h.elim
        | ok y r3 =>
          rw [he, eltK_ok] at h
          cases hz : esc r3 y with
          | none => rw [hz] at h; exact h.elim
          | some zr =>
            obtain ⟨z, r4⟩ := zr
            rw [hz, lcC_some] at h
            exact .inr ⟨r2, y, r3, z, r4, h.1, rfl, he, hz, h.2⟩
@[simp] theorem wipeE_nil (r : Env) : wipeE [] r = r := rfl
@[simp] theorem wipeE_cons (v : Nat) (vs : List Nat) (r : Env) : wipeE (v :: vs) r = (wipeE vs r).set v .un := rfl
theorem lcL_run {α S : Type} {vs : List Nat} {p : Pat} {t : DT} {e : DE} (en : α → D) (E : S → Env) (I : Nat → S → Prop) (g : S → α → Option D × S) (xs : List α)
    (h : ∀ s x n, I (n + 1) s → x ∈ xs → I n (g s x).2 ∧ lcA vs t e (g s x).1 (E (g s x).2) (put p (en x) (E s))) :
    ∀ (s : S) (r : Env) (acc : List D), I xs.length s → wipeE vs r = E s → I 0 (lcRun g s xs).2 ∧ ∃ r2, lcL vs p t e (xs.map en) r acc = .ok (acc.reverse ++ (lcRun g s xs).1) r2 ∧ wipeE vs r2 = E (lcRun g s xs).2 := by
  induction xs with
  | nil => exact fun s r acc hs hr => ⟨hs, r, by simp [lcL, lcRun], hr⟩
  | cons x xs ih =>
    intro s r acc hs hr
    obtain ⟨h1, h2⟩ := h s x xs.length hs List.mem_cons_self
    obtain ⟨r1, h2, h3⟩ := lcA_step h2
    have ih := ih fun s y n hs hy => h s y n hs (List.mem_cons_of_mem _ hy)
    rw [List.map_cons]
    unfold lcL lcRun
    rw [hr, h2]
    dsimp only
    rcases h3 with ⟨r2, hg, a1, a2⟩ | ⟨r2, y, r3, z, r4, hg, a1, a2, a3, a4⟩
    · rw [hg, a1]
      exact ih (g s x).2 r2 acc h1 a2
    · rw [hg, a1]
      dsimp only
      rw [a2]
      dsimp only
      rw [a3]
      obtain ⟨b0, r5, b1, b2⟩ := ih (g s x).2 r4 (z :: acc) h1 a4
      refine ⟨b0, r5, ?_, b2⟩
      dsimp only
      rw [b1]
      simp
theorem lock_len (lk : Option Nat) (r : Env) : (lock lk r).length = r.length := by
  unfold lock
  split
  · rfl
  · split <;> simp
theorem wipe_len {vs : List Nat} {r r' : Env} (h : wipeE vs r = r') : r.length = r'.length := by rw [← h, wipeE_len]
/-- the comprehension as a whole -/
theorem lc_run {α S : Type} {vs : List Nat} {it : DI} {p : Pat} {t : DT} {e : DE} {r r1 : Env} {lk : Option Nat} (en : α → D) (E : S → Env) (I : Nat → S → Prop) (g : S → α → Option D × S) (xs : List α) (s : S) (hit : it r = .ok (xs.map en, lk) r1)
    (hv : vs.all (notOw r1) = true) (hE : wipeE vs (lock lk r1) = E s) (hs : I xs.length s)
    (h : ∀ s x n, I (n + 1) s → x ∈ xs → I n (g s x).2 ∧ lcA vs t e (g s x).1 (E (g s x).2) (put p (en x) (E s))) (hl : (lcRun g s xs).1.length ≤ lim) :
    I 0 (lcRun g s xs).2 ∧ ∃ r2, dLc vs it p t e r = .ok (.nw (.list (lcRun g s xs).1)) (unlock lk (backE r1 vs r2)) ∧ wipeE vs r2 = E (lcRun g s xs).2 := by
  obtain ⟨b0, r2, b1, b2⟩ := lcL_run en E I g xs h s (wipeE vs (lock lk r1)) [] hs (by rw [wipeE_wipe]; exact hE)
  refine ⟨b0, r2, ?_, b2⟩
  unfold dLc
  rw [hit, bind_ok, if_pos hv]
  dsimp only
  rw [b1]
  dsimp only
  rw [List.reverse_nil, List.nil_append, if_pos hl]
/-- what one item does where nothing changes -/
def lpK (vs : List Nat) (t : DT) (e : DE) (w : Env) (q : Bool) (z : D) : Option Env → Prop
  | some ra => wipeE vs ra = w ∧ t ra = .ok q ra ∧ (q = true → eltK (e ra) = some (z, ra))
  | none => False
@[simp] theorem lpK_some (vs : List Nat) (t : DT) (e : DE) (w : Env) (q : Bool) (z : D) (ra : Env) : lpK vs t e w q z (some ra) = (wipeE vs ra = w ∧ t ra = .ok q ra ∧ (q = true → eltK (e ra) = some (z, ra))) := of_eq_true (eq_true rfl)
theorem lc_filter {α : Type} {vs : List Nat} {it : DI} {p : Pat} {t : DT} {e : DE} {r : Env} (en : α → D) (q : α → Bool) (f : α → D) (xs : List α) (hit : it r = .ok (xs.map en, none) r) (hv : vs.all (notOw r) = true)
    (h : ∀ x, x ∈ xs → lpK vs t e (wipeE vs r) (q x) (f x) (put p (en x) (wipeE vs r))) (hl : xs.length ≤ lim) :
    dLc vs it p t e r = .ok (.nw (.list ((xs.filter q).map f))) r := by
  have key : ∀ (xs : List α) (u : Unit), (lcRun (fun (s : Unit) (x : α) => (if q x = true then some (f x) else none, s)) u xs).1 = (xs.filter q).map f := by
    intro xs
    induction xs with
    | nil => intro u; rfl
    | cons x xs ih =>
      intro u
      unfold lcRun
      by_cases hq : q x = true
      · simp only [hq, if_true]
        rw [List.filter_cons_of_pos hq, List.map_cons, ih]
      · simp only [hq]
        rw [List.filter_cons_of_neg hq, ← ih ()]
        rfl
  obtain ⟨_, r2, b1, b2⟩ := lc_run (S := Unit) (p := p) (t := t) (e := e) en (fun _ => wipeE vs r) (fun _ _ => True) (fun s x => (if q x = true then some (f x) else none, s)) xs () hit hv rfl trivial (fun s x _ _ hx => by
    refine ⟨trivial, ?_⟩
    have hx := h x hx
    cases hp : put p (en x) (wipeE vs r) with
    | none => rw [hp] at hx; exact hx.elim
    | some ra =>
      rw [hp] at hx
      obtain ⟨h2, h3, h4⟩ := hx
      show lcB vs e _ _ (t ra)
      rw [h3]
      by_cases hq : q x = true
      · simp only [hq, lcB_ok, if_true]
        rw [h4 hq]
        exact ⟨rfl, h2⟩
      · simp only [hq, lcB_ok]
        exact ⟨rfl, h2⟩) (by rw [key, List.length_map]; exact Nat.le_trans (List.length_filter_le _ _) hl)
  rw [b1, key]
  congr 1
  show backE r vs r2 = r
  have hlen : r2.length = r.length := by rw [wipe_len b2, wipeE_len]
  apply List.ext_getElem?
  intro k
  rw [backE_get r vs r2 k hlen]
  by_cases hk : k ∈ vs
  · rw [if_pos hk]
  · rw [if_neg hk]
    have : (wipeE vs r2)[k]? = (wipeE vs r)[k]? := by rw [b2]
    rw [wipeE_get, wipeE_get, if_neg (fun z => hk z.1), if_neg (fun z => hk z.1)] at this
    exact this
theorem lc_map {α : Type} {vs : List Nat} {it : DI} {p : Pat} {e : DE} {r : Env} (en : α → D) (f : α → D) (xs : List α) (hit : it r = .ok (xs.map en, none) r) (hv : vs.all (notOw r) = true)
    (h : ∀ x, x ∈ xs → lpK vs tYes e (wipeE vs r) true (f x) (put p (en x) (wipeE vs r))) (hl : xs.length ≤ lim) :
    dLc vs it p tYes e r = .ok (.nw (.list (xs.map f))) r := by
  rw [lc_filter en (fun _ => true) f xs hit hv h hl]
  congr 4
  exact List.filter_eq_self.mpr fun _ _ => rfl
end SE
set_option Elab.async false
set_option linter.all false
set_option maxRecDepth 100000
set_option maxHeartbeats 1000000
namespace SE
open PySem
/-- d can be shown: k deep, of weight n -/
structure Sm (k n : Nat) (d : D) : Prop where
  lay : d.canLay0 = true
  dep : d.depth ≤ k
  wt : d.weight ≤ n
  ish : d.intsShort 13 = true
  shw : d.showable = true
theorem Sm.mono {k n k' n' : Nat} {d : D} (h : Sm k n d) (hk : k ≤ k') (hn : n ≤ n') : Sm k' n' d := ⟨h.lay, Nat.le_trans h.dep hk, Nat.le_trans h.wt hn, h.ish, h.shw⟩
theorem sm_int {i : Int} (h : i.natAbs < 1000000000000) (k : Nat) : Sm k 40 (.int i) := by
  have h2 : i.natAbs ≠ 0 → i.natAbs.log2 < 40 := fun z => (Nat.log2_lt z).mpr (Nat.lt_of_lt_of_le h (by decide))
  have h3 : i.natAbs.log2 < 1920 := by
    by_cases z : i.natAbs = 0
    · rw [z]; decide
    · have := h2 z; omega
  refine ⟨by simp only [PyData.canLay0], by simp only [PyData.depth]; omega, ?_, ?_, by simp only [PyData.showable, decide_eq_true_eq]; exact h3⟩
  · simp only [PyData.weight]
    split
    · omega
    · rename_i hz
      have z : i.natAbs ≠ 0 := by
        intro e
        apply hz
        have : i = 0 := by omega
        simp [this]
      have := h2 z
      omega
  · simp only [PyData.intsShort, decide_eq_true_eq]
    show (Str.ofString (toString i)).length ≤ 13
    have := PySem.int_text_length_le10 (a := i) (k := 12) (by decide) h
    have e : (Str.ofString (toString i)).length = (toString i).length := ofString_length _
    rw [e]
    exact this
theorem sm_bool (b : Bool) (k n : Nat) : Sm k n (.bool b) := ⟨by simp only [PyData.canLay0], by simp [PyData.depth], by simp [PyData.weight], by simp only [PyData.intsShort], by simp only [PyData.showable]⟩
theorem sm_none (k n : Nat) : Sm k n .none := ⟨by simp only [PyData.canLay0], by simp [PyData.depth], by simp [PyData.weight], by simp only [PyData.intsShort], by simp only [PyData.showable]⟩
theorem sm_str {s : Str} {n : Nat} (h : (s.cps.all (· < 0x110000) && decide (s.cps.size ≤ n)) = true) (k : Nat) : Sm k n (.str s) := by
  simp only [Bool.and_eq_true, decide_eq_true_eq] at h
  exact ⟨by simp only [PyData.canLay0, PyData.strOk]; exact h.1, by simp [PyData.depth], by simp only [PyData.weight]; exact h.2, by simp only [PyData.intsShort], by simp only [PyData.showable]⟩
theorem sm_all {k n : Nat} : ∀ {ds : List D}, (∀ d ∈ ds, Sm k n d) → PyData.canLayAll0 ds = true ∧ PyData.depthAll ds ≤ k ∧ PyData.weightAll ds ≤ ds.length * (n + 1) ∧ PyData.intsShortAll 13 ds = true ∧ PyData.showableAll ds = true
  | [], _ => ⟨by simp only [PyData.canLayAll0], by simp [PyData.depthAll], by simp [PyData.weightAll], by simp only [PyData.intsShortAll], by simp only [PyData.showableAll]⟩
  | d :: ds, h => by
    obtain ⟨a1, a2, a3, a4, a5⟩ := sm_all fun d hd => h d (List.mem_cons_of_mem _ hd)
    have hd := h d List.mem_cons_self
    refine ⟨by simp only [PyData.canLayAll0, hd.lay, a1, Bool.and_self], ?_, ?_, by simp only [PyData.intsShortAll, hd.ish, a4, Bool.and_self], by simp only [PyData.showableAll, hd.shw, a5, Bool.and_self]⟩
    · simp only [PyData.depthAll]; exact Nat.max_le.mpr ⟨hd.dep, a2⟩
    · simp only [PyData.weightAll, List.length_cons]
      have := hd.wt
      rw [Nat.succ_mul]
      omega
theorem sm_tuple {k n m : Nat} {ds : List D} (h : ∀ d ∈ ds, Sm k n d) (hm : ds.length * (n + 1) ≤ m) : Sm (k + 1) m (.tuple ds) := by
  obtain ⟨a1, a2, a3, a4, a5⟩ := sm_all h
  exact ⟨by simp only [PyData.canLay0]; exact a1, by simp only [PyData.depth]; omega, by simp only [PyData.weight]; omega, by simp only [PyData.intsShort]; exact a4, by simp only [PyData.showable]; exact a5⟩
theorem sm_list {k n m : Nat} {ds : List D} (h : ∀ d ∈ ds, Sm k n d) (hm : ds.length * (n + 1) ≤ m) : Sm (k + 1) m (.list ds) := by
  obtain ⟨a1, a2, a3, a4, a5⟩ := sm_all h
  exact ⟨by simp only [PyData.canLay0]; exact a1, by simp only [PyData.depth]; omega, by simp only [PyData.weight]; omega, by simp only [PyData.intsShort]; exact a4, by simp only [PyData.showable]; exact a5⟩
theorem sm_show {d : D} (h : Sm 64 1048576 d) : showOk d = true := by
  have e : d.layable0 = true := by
    simp only [PyData.layable0, Bool.and_eq_true, decide_eq_true_eq]
    exact ⟨⟨h.lay, h.dep⟩, h.wt⟩
  have := PyProof.Rows.shown_le13 e h.ish
  simp only [showOk, SeqAt.shaped, Bool.and_eq_true, decide_eq_true_eq, lim]
  exact ⟨⟨h.shw, h.lay, h.dep⟩, decide_eq_true (Nat.le_trans this (show 15728653 ≤ 16777216 by decide))⟩
def F_same : Fn := mkFn 2 2
  (sSeq (sRet (dOp fEq (dB (f1 gRepr) (rCons (dLst (aCons (dVar 0) aNil)) rNil)) (dB (f1 gRepr) (rCons (dLst (aCons (dVar 1) aNil)) rNil))))
  sNext)
@[simp] theorem gRepr_l {ds : List D} (h : showOk (.list ds) = true) : gRepr (.list ds) = some (.va (.str (PyData.shown (.list ds)))) := if_pos h
theorem same_ok {d : D} (h : Sm 63 1048575 d) (p q : Bool) : F_same [.va p d, .va q d] = .ok (.va (.bool true)) [.va p d, .va q d] := by
  have e : showOk (.list [d]) = true := by
    apply sm_show
    refine ⟨by simp only [PyData.canLay0, PyData.canLayAll0, h.lay, Bool.and_self], ?_, ?_, by simp only [PyData.intsShort, PyData.intsShortAll, h.ish, Bool.and_self], by simp only [PyData.showable, PyData.showableAll, h.shw, Bool.and_self]⟩
    · simp only [PyData.depth, PyData.depthAll]
      have := h.dep
      omega
    · simp only [PyData.weight, PyData.weightAll]
      have := h.wt
      omega
  simp [F_same, e, lim]
def F_next : Fn := mkFn 2 3
  (sSeq (sSub 0 fSetL (dC (.int 1)) (dOp fAdd (dOp fIx (dVar 0) (dC (.int 1))) (dC (.int 1))))
  (sSeq (sAsg false 2 (dOp fFdiv (dOp fIx (dVar 0) (dC (.int 1))) (dB (f1 gLen) (rCons (dOp fIx (dVar 0) (dC (.int 0))) rNil))))
  (sSeq (sRet (dOp fMod (dB (f1 gInt) (rCons (dOp fAdd (dOp fAdd (dOp fIx (dOp fIx (dVar 0) (dC (.int 0))) (dOp fMod (dOp fIx (dVar 0) (dC (.int 1))) (dB (f1 gLen) (rCons (dOp fIx (dVar 0) (dC (.int 0))) rNil)))) (dOp fMul (dVar 2) (dC (.int 389)))) (dOp fMul (dOp fMul (dOp fIx (dVar 0) (dC (.int 1))) (dVar 2)) (dC (.int 17)))) rNil)) (dVar 1)))
  sNext)))
/-- the state of draws: the stream ns, at c -/
def stD (ns : List Int) (c : Int) : D := .list [.list (ns.map PyData.int), .int c]
structure Wf (ns : List Int) : Prop where
  ne : ns ≠ []
  len : ns.length ≤ 4000
def drw (ns : List Int) (c m : Int) : Int := ((ns[((c + 1) % (ns.length : Int)).toNat]?).getD 0 + (c + 1) / (ns.length : Int) * 389 + (c + 1) * ((c + 1) / (ns.length : Int)) * 17) % m
theorem drw_lo (ns : List Int) (c : Int) {m : Int} (h : 0 < m) : 0 ≤ drw ns c m := Int.emod_nonneg _ (by omega)
theorem drw_hi (ns : List Int) (c : Int) {m : Int} (h : 0 < m) : drw ns c m < m := Int.emod_lt_of_pos _ h
theorem next_ok {ns : List Int} {c m : Int} (W : Wf ns) (h0 : 0 ≤ c) (h1 : c < 1000000000000000) (hm : 0 < m) (p q : Bool) :
    F_next [.ow p false (stD ns c), .va q (.int m)] = .ok (.va (.int (drw ns c m))) [.ow p false (stD ns (c + 1)), .va q (.int m)] := by
  have hl : 0 < ns.length := by
    have := W.ne
    cases ns with
    | nil => exact absurd rfl this
    | cons _ _ => simp
  have hl2 := W.len
  have hr0 : 0 ≤ (c + 1) % (ns.length : Int) := Int.emod_nonneg _ (by omega)
  have hr1 : (c + 1) % (ns.length : Int) < ns.length := Int.emod_lt_of_pos _ (by omega)
  have hx : (ns.map PyData.int)[((c + 1) % (ns.length : Int)).toNat]? = some (.int ((ns[((c + 1) % (ns.length : Int)).toNat]?).getD 0)) := by
    rw [List.getElem?_map, List.getElem?_eq_getElem (by omega)]
    rfl
  have hix := fIx_l hr0 hx
  have hd := fFdiv_i (i := c + 1) (j := (ns.length : Int)) ⟨by omega, by omega⟩
  have hm1 := fMod_i (i := c + 1) (j := (ns.length : Int)) (by omega)
  have hm2 : ∀ i, fMod (.int i) (.int m) = some (.va (.int (i % m))) := fun i => fMod_i hm
  have ht0 : 0 ≤ (c + 1) / (ns.length : Int) := Int.ediv_nonneg (by omega) (by omega)
  have ht1 : (c + 1) / (ns.length : Int) ≤ c + 1 := Int.ediv_le_self _ (by omega)
  have hq1 : fMul (.int ((c + 1) / (ns.length : Int))) (.int 389) = some (.va (.int ((c + 1) / (ns.length : Int) * 389))) := fMul_i (.inr (by decide))
  have hq2 : fMul (.int (c + 1)) (.int ((c + 1) / (ns.length : Int))) = some (.va (.int ((c + 1) * ((c + 1) / (ns.length : Int))))) := fMul_i (.inl (by omega))
  have hq3 : fMul (.int ((c + 1) * ((c + 1) / (ns.length : Int)))) (.int 17) = some (.va (.int ((c + 1) * ((c + 1) / (ns.length : Int)) * 17))) := fMul_i (.inr (by decide))
  have hs := fSetL_nat (os := [.list (ns.map PyData.int), .int c]) (k := 1) (d := .int (c + 1)) (by decide) (by simp)
  simp [F_next, stD, hs, hd, hm1, hix, hq1, hq2, hq3, hm2]
  rfl
end SE
set_option Elab.async false
set_option linter.all false
set_option maxRecDepth 100000
set_option maxHeartbeats 1000000
namespace SE
open PySem
def F_stream_l1 : DS := (sSeq (sDrop (dMut 1 gAppend (aCons (dOp fMod (dB (f1 gInt) (rCons (dVar 3) rNil)) (dC (.int 1009))) aNil)))
  (sSeq (sAsg false 3 (dOp fFdiv (dVar 3) (dC (.int 1009))))
  (sSeq (sIf (SE.tB (dOp fEq (dVar 3) (dC (.int 0)))) (sSeq sBreak
  sNext) sNext)
  sNext)))
def F_stream_l2 : DS := (sSeq (sAsg false 5 (dOp fMod (dB (f1 gInt) (rCons (dOp fAdd (dOp fAdd (dOp fMul (dVar 5) (dC (.int 48271))) (dOp fMul (dC (.int 7)) (dVar 4))) (dC (.int 11))) rNil)) (dC (.int 2147483647))))
  (sSeq (sDrop (dMut 1 gAppend (aCons (dOp fMod (dOp fMod (dB (f1 gInt) (rCons (dOp fAdd (dOp fMul (dVar 5) (dC (.int 69621))) (dVar 4)) rNil)) (dC (.int 2147483629))) (dC (.int 1009))) aNil)))
  sNext))
def F_stream_l3 : DS := (sSeq (sAsg false 3 (dB (f1 gAbs) (rCons (dB (f1 gInt) (rCons (dVar 2) rNil)) rNil)))
  (sSeq (sIf (SE.tB (dOp fGe (dVar 3) (dOp fPow (dC (.int 10)) (dC (.int 18))))) (sSeq (sFor (SE.iRng1 (dC (.int 60))) (.v 4) F_stream_l1)
  sNext) (sSeq (sAsg false 5 (dOp fMod (dB (f1 gInt) (rCons (dVar 3) rNil)) (dC (.int 2147483647))))
  (sSeq (sFor (SE.iRng1 (dC (.int 10))) (.v 4) F_stream_l2)
  sNext)))
  sNext))
def F_stream : Fn := mkFn 1 6
  (sSeq (sAsg true 1 (dLst aNil))
  (sSeq (sFor (iSeq (dSl fSl (dVar 0) oNone (oSome (dC (.int 63))))) (.v 2) F_stream_l3)
  (sSeq (sIf (SE.tB (dOp fEq (dB (f1 gLen) (rCons (dVar 1) rNil)) (dC (.int 0)))) (sSeq (sDrop (dMut 1 gAppend (aCons (dC (.int 0)) aNil)))
  sNext) sNext)
  (sSeq (sRet (dVar 1))
  sNext))))
abbrev lstI (xs : List Int) : D := .list (xs.map PyData.int)
@[simp] theorem fPow_18 : fPow (.int 10) (.int 18) = some (.va (.int 1000000000000000000)) := by
  have e : iPow 10 18 = some 1000000000000000000 := by decide +kernel
  simp only [fPow, fII, e, Option.map_some]
theorem app_int {xs : List Int} {i : Int} (h : xs.length < lim) : gAppend (.list (xs.map PyData.int)) [.int i] = some (.list ((xs ++ [i]).map PyData.int), .none) := by
  rw [gAppend_l (by rw [List.length_map]; exact h), List.map_append]
  rfl
/-- the slots of the stream's frame -/
def SI (n : Nat) (r : Env) : Prop := ∃ (q : D) (ms : List Int) (s2 s4 s5 : Sl) (rest : Int), r = [.va false q, .ow false false (.list (ms.map PyData.int)), s2, .va false (.int rest), s4, s5] ∧ Stb s2 ∧ Stb s4 ∧ Stb s5 ∧ ms.length + n ≤ 3800
theorem stream_l1 (n : Nat) : ∀ (ds : List D) (r : Env), (∃ m, SI m r ∧ ds.length + n ≤ m) → ∃ r', forL (.v 4) F_stream_l1 ds r = .nx r' ∧ SI n r' := by
  intro ds r h
  refine forL_post (Q := fun o => ∃ r', o = .nx r' ∧ SI n r') (fun ds r => ∃ m, SI m r ∧ ds.length + n ≤ m) ?_ ?_ ds r h
  · rintro d ds r ⟨m, ⟨q, ms, s2, s4, s5, rest, rfl, k2, k4, k5, hl⟩, hm⟩
    simp only [List.length_cons] at hm
    have hf := fFdiv_i (i := rest) (j := 1009) ⟨by decide, by decide⟩
    have hmo := fMod_i (i := rest) (j := 1009) (by decide)
    have ha := app_int (xs := ms) (i := rest % 1009) (by unfold lim; omega)
    simp [storeK_stb k4, F_stream_l1, hmo, ha, hf]
    by_cases hz : rest / 1009 = 0
    · simp [hz]
      exact ⟨q, ms ++ [rest % 1009], s2, _, s5, 0, by simp; rfl, k2, stb_va _, k5, by simp; omega⟩
    · simp [hz]
      exact ⟨m - 1, ⟨q, ms ++ [rest % 1009], s2, _, s5, rest / 1009, by simp; rfl, k2, stb_va _, k5, by simp; omega⟩, by omega⟩
  · rintro r ⟨m, ⟨q, ms, s2, s4, s5, rest, rfl, k2, k4, k5, hl⟩, hm⟩
    exact ⟨_, rfl, q, ms, s2, s4, s5, rest, rfl, k2, k4, k5, by simp at hm; omega⟩
/-- the frame ahead of a cell -/
def SJ (n : Nat) (r : Env) : Prop := ∃ (q : D) (ms : List Int) (s2 s3 s4 s5 : Sl), r = [.va false q, .ow false false (.list (ms.map PyData.int)), s2, s3, s4, s5] ∧ Stb s2 ∧ Stb s3 ∧ Stb s4 ∧ Stb s5 ∧ ms.length + n ≤ 3800
theorem SI.sj {n : Nat} {r : Env} (h : SI n r) : SJ n r := by
  obtain ⟨q, ms, s2, s4, s5, rest, rfl, k2, k4, k5, hl⟩ := h
  exact ⟨q, ms, s2, _, s4, s5, rfl, k2, stb_va _, k4, k5, hl⟩
def SK (n : Nat) (r : Env) : Prop := ∃ (q : D) (ms : List Int) (s2 s3 s4 : Sl) (rest : Int), r = [.va false q, .ow false false (.list (ms.map PyData.int)), s2, s3, s4, .va false (.int rest)] ∧ Stb s2 ∧ Stb s3 ∧ Stb s4 ∧ ms.length + n ≤ 3800
theorem rng_map (lo : Int) (n : Nat) : rng lo n = ((List.range n).map fun (k : Nat) => lo + (k : Int)).map PyData.int := by
  rw [List.map_map]
  rfl
def SKJ (n : Nat) (ds : List D) (r : Env) : Prop := ∃ (m : Nat) (ks : List Int), ds = ks.map PyData.int ∧ SK m r ∧ ds.length + n ≤ m
theorem stream_l2 (n : Nat) : ∀ (ks : List Int) (r : Env), (∃ m, SK m r ∧ ks.length + n ≤ m) → ∃ r', forL (.v 4) F_stream_l2 (ks.map PyData.int) r = .nx r' ∧ SJ n r' := by
  intro ks r h
  refine forL_post (Q := fun o => ∃ r', o = .nx r' ∧ SJ n r') (SKJ n) ?_ ?_ _ r ?_
  · rintro d ds r ⟨m, ks, hks, ⟨q, ms, s2, s3, s4, rest, rfl, k2, k3, k4, hl⟩, hm⟩
    obtain ⟨k, ks', rfl, rfl, rfl⟩ := List.map_eq_cons_iff.mp hks.symm
    simp only [List.length_cons] at hm
    have h1 := fMul_i (i := rest) (j := 48271) (.inr (by decide))
    have h2 := fMul_i (i := 7) (j := k) (.inl (by decide))
    have h3 := fMod_i (i := rest * 48271 + 7 * k + 11) (j := 2147483647) (by decide)
    have h4 := fMul_i (i := (rest * 48271 + 7 * k + 11) % 2147483647) (j := 69621) (.inr (by decide))
    have h5 := fMod_i (i := (rest * 48271 + 7 * k + 11) % 2147483647 * 69621 + k) (j := 2147483629) (by decide)
    have h6 := fMod_i (i := ((rest * 48271 + 7 * k + 11) % 2147483647 * 69621 + k) % 2147483629) (j := 1009) (by decide)
    have ha := app_int (xs := ms) (i := ((rest * 48271 + 7 * k + 11) % 2147483647 * 69621 + k) % 2147483629 % 1009) (by unfold lim; omega)
    simp [storeK_stb k4, F_stream_l2, h1, h2, h3, h4, h5, h6, ha]
    exact ⟨m - 1, ks', rfl, ⟨q, ms ++ [((rest * 48271 + 7 * k + 11) % 2147483647 * 69621 + k) % 2147483629 % 1009], s2, s3, _, _, by simp; exact ⟨rfl, rfl⟩, k2, k3, stb_va _, by simp; omega⟩, by simp at hm ⊢; omega⟩
  · rintro r ⟨m, ks, hks, ⟨q, ms, s2, s3, s4, rest, rfl, k2, k3, k4, hl⟩, hm⟩
    exact ⟨_, rfl, q, ms, s2, s3, s4, _, rfl, k2, k3, k4, stb_va _, by simp at hm; omega⟩
  · obtain ⟨m, h1, h2⟩ := h
    exact ⟨m, ks, rfl, h1, by simpa using h2⟩
theorem stream_l3 (n : Nat) (q : D) (ms : List Int) (s2 s3 s4 s5 : Sl) (x : Int) (k2 : Stb s2) (k3 : Stb s3) (k4 : Stb s4) (k5 : Stb s5) (hl : ms.length + (60 + n) ≤ 3800) :
    ∃ r', F_stream_l3 [.va false q, .ow false false (.list (ms.map PyData.int)), .va false (.int x), s3, s4, s5] = .nx r' ∧ SJ n r' := by
  simp [F_stream_l3, storeK_stb k3]
  by_cases hz : (1000000000000000000 : Int) ≤ (x.natAbs : Int)
  · simp [hz]
    obtain ⟨r', h1, h2⟩ := stream_l1 n (rng 0 60) [.va false q, .ow false false (.list (ms.map PyData.int)), .va false (.int x), .va false (.int x.natAbs), s4, s5] ⟨60 + n, ⟨q, ms, _, s4, s5, _, rfl, stb_va _, k4, k5, hl⟩, by simp [rng]⟩
    rw [h1]
    exact ⟨r', rfl, h2.sj⟩
  · have hm := fMod_i (i := (x.natAbs : Int)) (j := 2147483647) (by decide)
    simp [hz, hm, storeK_stb k5]
    rw [rng_map]
    obtain ⟨r', h1, h2⟩ := stream_l2 n ((List.range 10).map fun (k : Nat) => 0 + (k : Int)) [.va false q, .ow false false (.list (ms.map PyData.int)), .va false (.int x), .va false (.int x.natAbs), s4, .va false (.int ((x.natAbs : Int) % 2147483647))] ⟨60 + n, ⟨q, ms, _, _, s4, _, rfl, stb_va _, stb_va _, k4, hl⟩, by simp⟩
    rw [h1]
    exact ⟨r', rfl, h2⟩
theorem stream_fold (n : Nat) : ∀ (xs : List Int) (r : Env), SJ (xs.length * 60 + n) r → ∃ r', forL (.v 2) F_stream_l3 (xs.map PyData.int) r = .nx r' ∧ SJ n r'
  | [], r, h => ⟨r, rfl, by simpa using h⟩
  | x :: xs, r, h => by
    obtain ⟨q, ms, s2, s3, s4, s5, rfl, k2, k3, k4, k5, hl⟩ := h
    obtain ⟨r1, h1, h2⟩ := stream_l3 (xs.length * 60 + n) q ms s2 s3 s4 s5 x k2 k3 k4 k5 (by simp at hl; omega)
    obtain ⟨r2, h3, h4⟩ := stream_fold n xs r1 h2
    refine ⟨r2, ?_, h4⟩
    rw [List.map_cons]
    unfold forL
    simp [storeK_stb k2, h1, h3]
theorem cut63 (xs : List Int) (h : xs.length ≤ 63) : cut (xs.map PyData.int) none (some 63) = xs.map PyData.int := by
  apply cut_all
  refine ⟨rfl, ?_⟩
  simp only [HT.sIx, List.length_map]
  rw [if_neg (by decide)]
  exact Nat.min_eq_right (by simpa using h)
theorem stream_ok (p : Bool) (xs : List Int) (h : xs.length ≤ 63) : ∃ ms, Wf ms ∧ F_stream [.va p (.list (xs.map PyData.int))] = .ok (.nw (.list (ms.map PyData.int))) [.va p (.list (xs.map PyData.int))] := by
  obtain ⟨r', h1, q, ms, s2, s3, s4, s5, rfl, k2, k3, k4, k5, hl⟩ := stream_fold 0 xs [.va false (.list (xs.map PyData.int)), .ow false false (.list []), .un, .un, .un, .un] ⟨_, [], .un, .un, .un, .un, rfl, trivial, trivial, trivial, trivial, by simp; omega⟩
  have hl2 : ms.length ≤ 3800 := by omega
  cases ms with
  | nil =>
    refine ⟨[0], ⟨by simp, by simp⟩, ?_⟩
    simp at h1
    simp [F_stream, lim, fSl, cut63 xs h, h1, gAppend]
  | cons m ms =>
    refine ⟨m :: ms, ⟨by simp, by simp at hl2 ⊢; omega⟩, ?_⟩
    simp at h1
    simp [F_stream, lim, fSl, cut63 xs h, h1]
    have hz : ¬ ((ms.length : Int) + 1 = 0) := by omega
    simp [hz]
end SE
set_option Elab.async false
set_option linter.all false
set_option maxRecDepth 100000
set_option maxHeartbeats 1000000
namespace SE
open PySem
def mxI (b x : Int) : Int := if x > b then x else b
def mnI (b x : Int) : Int := if x < b then x else b
theorem mxI_eq (b x : Int) : mxI b x = max b x := by unfold mxI; omega
theorem mnI_eq (b x : Int) : mnI b x = min b x := by unfold mnI; omega
theorem better_gt (b x : Int) : better .Gt (.int b) (.int x) = .int (mxI b x) := by
  unfold better mxI
  simp only [ordD, intOp, Option.getD_some]
  by_cases h : x > b <;> simp [h]
theorem better_lt (b x : Int) : better .Lt (.int b) (.int x) = .int (mnI b x) := by
  unfold better mnI
  simp only [ordD, intOp, Option.getD_some]
  by_cases h : x < b <;> simp [h]
theorem shaped_int (i : Int) : SeqAt.shaped (.int i) = true := by simp [SeqAt.shaped, PyData.canLay0, PyData.depth]
theorem like_int (op : CmpOp) (i j : Int) : like op (.int i) (.int j) = true := by simp only [like]
theorem all_int (op : CmpOp) (b : Int) (xs : List Int) : ((PyData.int b :: xs.map PyData.int).all fun x => like op (.int b) x && SeqAt.shaped x) = true := by
  rw [List.all_eq_true]
  intro d hd
  rw [← List.map_cons (f := PyData.int), List.mem_map] at hd
  obtain ⟨x, _, e⟩ := hd
  rw [← e, like_int, shaped_int]
  rfl
theorem foldl_gt : ∀ (xs : List Int) (b : Int), (xs.map PyData.int).foldl (better .Gt) (.int b) = .int (xs.foldl mxI b)
  | [], b => rfl
  | x :: xs, b => by rw [List.map_cons, List.foldl_cons, better_gt, foldl_gt xs]; rfl
theorem foldl_lt : ∀ (xs : List Int) (b : Int), (xs.map PyData.int).foldl (better .Lt) (.int b) = .int (xs.foldl mnI b)
  | [], b => rfl
  | x :: xs, b => by rw [List.map_cons, List.foldl_cons, better_lt, foldl_lt xs]; rfl
theorem best_gt (b : Int) (xs : List Int) : bestD .Gt ((b :: xs).map PyData.int) = some (.int (xs.foldl mxI b)) := by
  rw [List.map_cons]
  refine (if_pos (all_int _ b xs)).trans ?_
  rw [foldl_gt]
theorem best_lt (b : Int) (xs : List Int) : bestD .Lt ((b :: xs).map PyData.int) = some (.int (xs.foldl mnI b)) := by
  rw [List.map_cons]
  refine (if_pos (all_int _ b xs)).trans ?_
  rw [foldl_lt]
theorem fMax_l (b : Int) (xs : List Int) : fMax [.list ((b :: xs).map PyData.int)] = some (.va (.int (xs.foldl mxI b))) := by
  simp only [fMax, items_l, Option.bind_some, best_gt, Option.map_some]
theorem fMax_t (b : Int) (xs : List Int) : fMax [.tuple ((b :: xs).map PyData.int)] = some (.va (.int (xs.foldl mxI b))) := by
  simp only [fMax, items_t, Option.bind_some, best_gt, Option.map_some]
theorem fMin_l (b : Int) (xs : List Int) : fMin [.list ((b :: xs).map PyData.int)] = some (.va (.int (xs.foldl mnI b))) := by
  simp only [fMin, items_l, Option.bind_some, best_lt, Option.map_some]
theorem fMin_t (b : Int) (xs : List Int) : fMin [.tuple ((b :: xs).map PyData.int)] = some (.va (.int (xs.foldl mnI b))) := by
  simp only [fMin, items_t, Option.bind_some, best_lt, Option.map_some]
theorem foldl_mxI_ge : ∀ (xs : List Int) (b : Int), b ≤ xs.foldl mxI b ∧ ∀ x ∈ xs, x ≤ xs.foldl mxI b
  | [], b => ⟨Int.le_refl _, fun x h => (by cases h)⟩
  | x :: xs, b => by
    obtain ⟨h1, h2⟩ := foldl_mxI_ge xs (mxI b x)
    rw [List.foldl_cons]
    have := mxI_eq b x
    refine ⟨by omega, fun y hy => ?_⟩
    rcases List.mem_cons.mp hy with rfl | hy
    · omega
    · exact h2 y hy
theorem foldl_mxI_mem : ∀ (xs : List Int) (b : Int), xs.foldl mxI b ∈ b :: xs
  | [], b => List.mem_cons_self
  | x :: xs, b => by
    rw [List.foldl_cons]
    have h := foldl_mxI_mem xs (mxI b x)
    unfold mxI at h ⊢
    split at h
    · rename_i hc
      rw [if_pos hc]
      exact List.mem_cons_of_mem _ h
    · rename_i hc
      rw [if_neg hc]
      rcases List.mem_cons.mp h with h | h
      · rw [h]; exact List.mem_cons_self
      · exact List.mem_cons_of_mem _ (List.mem_cons_of_mem _ h)
theorem foldl_mnI_le : ∀ (xs : List Int) (b : Int), xs.foldl mnI b ≤ b ∧ ∀ x ∈ xs, xs.foldl mnI b ≤ x
  | [], b => ⟨Int.le_refl _, fun x h => (by cases h)⟩
  | x :: xs, b => by
    obtain ⟨h1, h2⟩ := foldl_mnI_le xs (mnI b x)
    rw [List.foldl_cons]
    have := mnI_eq b x
    refine ⟨by omega, fun y hy => ?_⟩
    rcases List.mem_cons.mp hy with rfl | hy
    · omega
    · exact h2 y hy
theorem foldl_mnI_mem : ∀ (xs : List Int) (b : Int), xs.foldl mnI b ∈ b :: xs
  | [], b => List.mem_cons_self
  | x :: xs, b => by
    rw [List.foldl_cons]
    have h := foldl_mnI_mem xs (mnI b x)
    unfold mnI at h ⊢
    split at h
    · rename_i hc
      rw [if_pos hc]
      exact List.mem_cons_of_mem _ h
    · rename_i hc
      rw [if_neg hc]
      rcases List.mem_cons.mp h with h | h
      · rw [h]; exact List.mem_cons_self
      · exact List.mem_cons_of_mem _ (List.mem_cons_of_mem _ h)
/-- the best is one of them -/
theorem foldl_better_mem (op : CmpOp) : ∀ (ds : List D) (d : D), ds.foldl (better op) d ∈ d :: ds
  | [], d => List.mem_cons_self
  | x :: ds, d => by
    rw [List.foldl_cons]
    have h := foldl_better_mem op ds (better op d x)
    unfold better at h ⊢
    split at h
    · rename_i hc
      rw [if_pos hc]
      exact List.mem_cons_of_mem _ h
    · rename_i hc
      rw [if_neg hc]
      rcases List.mem_cons.mp h with h | h
      · rw [h]; exact List.mem_cons_self
      · exact List.mem_cons_of_mem _ (List.mem_cons_of_mem _ h)
abbrev prI (p : Int × Int) : D := .tuple [.int p.1, .int p.2]
theorem shaped_pr (p : Int × Int) : SeqAt.shaped (prI p) = true := by simp [SeqAt.shaped, PyData.canLay0, PyData.canLayAll0, PyData.depth, PyData.depthAll]
theorem fMin_pairs (p : Int × Int) (ps : List (Int × Int)) : ∃ q ∈ p :: ps, fMin [.list ((p :: ps).map prI)] = some (.va (prI q)) := by
  have hm := foldl_better_mem .Lt (ps.map prI) (prI p)
  rw [← List.map_cons, List.mem_map] at hm
  obtain ⟨q, hq, e⟩ := hm
  refine ⟨q, hq, ?_⟩
  have key : bestD .Lt (prI p :: ps.map prI) = some (prI q) := by
    rw [e]
    refine if_pos ?_
    rw [List.all_eq_true]
    intro d hd
    rw [← List.map_cons, List.mem_map] at hd
    obtain ⟨x, _, rfl⟩ := hd
    rw [shaped_pr, Bool.and_true]
    simp only [like, likes, Bool.and_self]
  simp only [fMin, items_l, Option.bind_some, List.map_cons, key, Option.map_some]
theorem fShr_nat (m k : Nat) : fShr (.int m) (.int k) = some (.va (.int ((m / 2 ^ k : Nat) : Int))) := by
  have e : iShr (m : Int) (k : Int) = some ((m / 2 ^ k : Nat) : Int) := by
    unfold iShr
    rw [if_pos (by omega)]
    simp
  simp only [fShr, fII, e, Option.map_some]
theorem fAnd_1 (i : Int) : fAnd (.int i) (.int 1) = some (.va (.int (i % 2))) := by
  simp only [fAnd, fII, Option.map_some, PyProof.Rows.bitAnd_m1]
theorem fShl_1 {k : Nat} (h : k ≤ 1000000) : fShl (.int 1) (.int k) = some (.va (.int ((2 ^ k : Nat) : Int))) := by
  have e : iShl 1 (k : Int) = some ((2 ^ k : Nat) : Int) := by
    unfold iShl
    rw [if_pos ⟨by omega, by omega, by decide⟩]
    simp
  simp only [fShl, fII, e, Option.map_some]
theorem and_bit {m k : Nat} (h : m.testBit k = true) : m &&& 2 ^ k = 2 ^ k := by
  apply Nat.eq_of_testBit_eq
  intro i
  rw [Nat.testBit_and, Nat.testBit_two_pow]
  by_cases e : k = i
  · subst e; simp [h]
  · simp [e]
theorem fXor_bit {m k : Nat} (h : m.testBit k = true) : fXor (.int m) (.int ((2 ^ k : Nat) : Int)) = some (.va (.int ((m - 2 ^ k : Nat) : Int))) := by
  simp only [fXor, fII]
  rw [PyProof.Rows.bitXor_and, PySem.W.os_band, and_bit h]
  have := Nat.ge_two_pow_of_testBit h
  simp only [Option.map_some]
  congr 3
  omega
theorem bit_mod (m k : Nat) : (((m / 2 ^ k : Nat) : Int) % 2 = 1) ↔ m.testBit k = true := by
  rw [Nat.testBit_eq_decide_div_mod_eq, decide_eq_true_eq]
  omega
theorem zip_pairs (xs ys : List Int) : zipD (xs.map PyData.int) (ys.map PyData.int) = (xs.zip ys).map prI := by
  unfold zipD
  rw [List.zip_eq_zipWith, List.zipWith_map, List.map_zipWith]
theorem enum_ints (xs : List Int) : enumD (xs.map PyData.int) = ((List.range xs.length).zip xs).map fun p => PyData.tuple [.int (p.1 : Int), .int p.2] := by
  unfold enumD
  rw [List.zip_eq_zipWith, List.zipWith_map_right, List.map_zipWith, List.length_map]
/-- the walk of enumerate, from k on -/
def enD (k : Nat) : List D → List D
  | [] => []
  | d :: ds => .tuple [.int k, d] :: enD (k + 1) ds
theorem enumD_from : ∀ (ds : List D) (k : Nat), (List.range' k ds.length).zipWith (fun (i : Nat) d => PyData.tuple [.int (i : Int), d]) ds = enD k ds
  | [], k => by simp [enD]
  | d :: ds, k => by
    rw [List.length_cons, List.range'_succ, List.zipWith_cons_cons, enumD_from ds (k + 1)]
    rfl
theorem enumD_eq (ds : List D) : enumD ds = enD 0 ds := by
  unfold enumD
  rw [List.range_eq_range', enumD_from]
theorem rng_succ (lo : Int) (n : Nat) : rng lo (n + 1) = .int lo :: rng (lo + 1) n := by
  unfold rng
  rw [List.range_succ_eq_map, List.map_cons, List.map_map]
  congr 1
  · simp
  · apply List.map_congr_left
    intro k _
    simp only [Function.comp_def]
    congr 1
    omega
end SE
set_option Elab.async false
set_option linter.all false
set_option maxRecDepth 100000
set_option maxHeartbeats 1000000
namespace SE
open PySem
theorem lcRun_draw {α : Type} (ns : List Int) {m : Int} (hm : 0 < m) : ∀ (xs : List α) (c : Int), ∃ ds : List Int, lcRun (fun (c : Int) (_ : α) => (some (PyData.int (drw ns c m)), c + 1)) c xs = (ds.map PyData.int, c + xs.length) ∧ ds.length = xs.length ∧ ∀ d ∈ ds, 0 ≤ d ∧ d < m
  | [], c => ⟨[], by simp [lcRun], rfl, fun d h => (by cases h)⟩
  | x :: xs, c => by
    obtain ⟨ds, h1, h2, h3⟩ := lcRun_draw ns hm xs (c + 1)
    refine ⟨drw ns c m :: ds, ?_, by simp [h2], fun d hd => ?_⟩
    · unfold lcRun
      simp only [h1, List.map_cons, List.length_cons]
      congr 1
      omega
    · rcases List.mem_cons.mp hd with rfl | hd
      · exact ⟨drw_lo _ _ hm, drw_hi _ _ hm⟩
      · exact h3 d hd
/-- [.. next(state, m) .. for .. in ..] -/
theorem lc_draws {α : Type} {vs : List Nat} {it : DI} {p : Pat} {e : DE} {r : Env} {i : Nat} {b : Bool} {ns : List Int} {c m : Int} (en : α → D) (xs : List α) (hm : 0 < m) (hit : it r = .ok (xs.map en, none) r) (hv : vs.all (notOw r) = true)
    (hri : r[i]? = some (.ow b false (stD ns c))) (hi : i ∉ vs) (hc : 0 ≤ c) (hc2 : c + xs.length < 1000000000000000) (hl : xs.length ≤ lim)
    (h : ∀ (c' : Int) (x : α), 0 ≤ c' → c' < 1000000000000000 → x ∈ xs → lcA vs tYes e (some (.int (drw ns c' m))) (wipeE vs (r.set i (.ow b false (stD ns (c' + 1))))) (put p (en x) (wipeE vs (r.set i (.ow b false (stD ns c')))))) :
    ∃ ds : List Int, dLc vs it p tYes e r = .ok (.nw (.list (ds.map PyData.int))) (r.set i (.ow b false (stD ns (c + xs.length)))) ∧ ds.length = xs.length ∧ ∀ d ∈ ds, 0 ≤ d ∧ d < m := by
  obtain ⟨ds, h1, h2, h3⟩ := lcRun_draw ns hm xs c
  have hir : i < r.length := (List.getElem?_eq_some_iff.mp hri).1
  have hself : r.set i (.ow b false (stD ns c)) = r := by
    apply List.ext_getElem?
    intro k
    rw [List.getElem?_set]
    by_cases e : i = k
    · subst e; rw [if_pos rfl, if_pos hir, hri]
    · simp [e]
  obtain ⟨_, r2, b1, b2⟩ := lc_run (S := Int) (p := p) (t := tYes) (e := e) en (fun c' => wipeE vs (r.set i (.ow b false (stD ns c')))) (fun n c' => 0 ≤ c' ∧ c' + n < 1000000000000000) (fun (c' : Int) (_ : α) => (some (PyData.int (drw ns c' m)), c' + 1)) xs c hit hv (by show wipeE vs r = _; rw [hself]) ⟨hc, hc2⟩
    (fun c' x n hI hx => ⟨⟨by have := hI.1; show 0 ≤ c' + 1; omega, by have := hI.2; show c' + 1 + n < _; omega⟩, h c' x hI.1 (by have := hI.2; omega) hx⟩) (by rw [h1]; simp only [List.length_map]; omega)
  refine ⟨ds, ?_, h2, h3⟩
  rw [b1, h1]
  congr 1
  rw [h1] at b2
  simp only at b2
  show backE r vs r2 = _
  have hlen : r2.length = r.length := by
    rw [wipe_len b2, wipeE_len, List.length_set]
  apply List.ext_getElem?
  intro k
  rw [backE_get r vs r2 k hlen]
  by_cases hk : k ∈ vs
  · rw [if_pos hk, List.getElem?_set, if_neg (fun e => hi (by rw [e]; exact hk))]
  · rw [if_neg hk]
    have : (wipeE vs r2)[k]? = (wipeE vs (r.set i (.ow b false (stD ns (c + xs.length)))))[k]? := by rw [b2]
    rw [wipeE_get, wipeE_get, if_neg (fun z => hk z.1), if_neg (fun z => hk z.1)] at this
    exact this
theorem cut_from1 (xs : List D) : cut xs (some 1) none = xs.drop 1 := by
  unfold cut
  have e : HT.sIx xs.length 0 (some 1) = min 1 xs.length := by
    simp [HT.sIx]
  have e2 : HT.sIx xs.length xs.length none = xs.length := rfl
  rw [e, e2]
  cases xs with
  | nil => rfl
  | cons x xs => simp
theorem fMul_t0 {n : Int} (d : D) (h0 : 0 ≤ n) (h1 : n ≤ 1000) : fMul (.tuple [d]) (.int n) = some (.va (.tuple (List.replicate n.toNat d))) := by
  refine (if_pos ?_).trans ?_
  · unfold repOk
    simp
    omega
  · have : ∀ k : Nat, (List.replicate k [d]).flatten = List.replicate k d := by
      intro k
      induction k with
      | zero => rfl
      | succ k ih => rw [List.replicate_succ, List.flatten_cons, ih, List.replicate_succ]; rfl
    rw [this]
theorem sum_le {b : Int} : ∀ (xs : List Int), (∀ x ∈ xs, x ≤ b) → xs.sum ≤ b * xs.length
  | [], _ => by simp
  | x :: xs, h => by
    have h1 := sum_le xs fun y hy => h y (List.mem_cons_of_mem _ hy)
    have h2 := h x List.mem_cons_self
    rw [List.sum_cons, List.length_cons]
    have : b * ((xs.length + 1 : Nat) : Int) = b * xs.length + b := by rw [Int.natCast_add, Int.mul_add]; simp
    omega
theorem sum_ge {b : Int} : ∀ (xs : List Int), (∀ x ∈ xs, b ≤ x) → b * xs.length ≤ xs.sum
  | [], _ => by simp
  | x :: xs, h => by
    have h1 := sum_ge xs fun y hy => h y (List.mem_cons_of_mem _ hy)
    have h2 := h x List.mem_cons_self
    rw [List.sum_cons, List.length_cons]
    have : b * ((xs.length + 1 : Nat) : Int) = b * xs.length + b := by rw [Int.natCast_add, Int.mul_add]; simp
    omega
/-- rounding up, two ways -/
theorem ceil_two {s w : Int} (h : 0 < w) : -(-s / w) = (s + w - 1) / w := by
  have h1 := Int.mul_ediv_add_emod (-s) w
  have h2 := Int.emod_nonneg (-s) (show w ≠ 0 by omega)
  have h3 := Int.emod_lt_of_pos (-s) h
  have h4 := Int.mul_ediv_add_emod (s + w - 1) w
  have h5 := Int.emod_nonneg (s + w - 1) (show w ≠ 0 by omega)
  have h6 := Int.emod_lt_of_pos (s + w - 1) h
  generalize -s / w = a at *
  generalize (s + w - 1) / w = b at *
  have e : w * (a + b) = w * a + w * b := Int.mul_add _ _ _
  have h7 : w * (a + b) < w * 1 := by omega
  have h8 : w * (-1) < w * (a + b) := by omega
  have h9 := Int.lt_of_mul_lt_mul_left h7 (by omega)
  have h10 := Int.lt_of_mul_lt_mul_left h8 (by omega)
  omega
theorem ceil_le {s w b : Int} (h : 0 < w) (k : s ≤ b * w) : (s + w - 1) / w ≤ b := by
  have : (s + w - 1) / w < b + 1 := Int.ediv_lt_of_lt_mul h (by rw [Int.add_mul, Int.one_mul]; omega)
  omega
end SE
set_option Elab.async false
set_option linter.all false
set_option maxRecDepth 100000
set_option maxHeartbeats 1000000
namespace SE
open PySem
def kParP (is : List Nat) : List Sl → Env → SOut := fun ss r1 => nxt (storeL is ss r1)
@[simp] theorem kParP_at (is : List Nat) (ss : List Sl) (r1 : Env) : kParP is ss r1 = nxt (storeL is ss r1) := of_eq_true (eq_true rfl)
@[simp] theorem x_parP (is : List Nat) (t : DP) (r : Env) : sParP is t r = (t r).st (kParP is) := of_eq_true (eq_true rfl)
@[simp] theorem x_pnil (r : Env) : pNil r = .ok [] r := of_eq_true (eq_true rfl)
def kPc2 (s : Sl) : List Sl → Env → Out (List Sl) := fun ss r3 => .ok (s :: ss) r3
@[simp] theorem kPc2_at (s : Sl) (ss : List Sl) (r3 : Env) : kPc2 s ss r3 = .ok (s :: ss) r3 := of_eq_true (eq_true rfl)
def pcK (t : DP) : Option (Sl × Env) → Out (List Sl)
  | some (s, r2) => (t r2).bind (kPc2 s)
  | none => .bad
@[simp] theorem pcK_some (t : DP) (s : Sl) (r : Env) : pcK t (some (s, r)) = (t r).bind (kPc2 s) := of_eq_true (eq_true rfl)
def kPc1 (m : Bool) (t : DP) : R → Env → Out (List Sl) := fun x r1 => pcK t (parP m x r1)
@[simp] theorem kPc1_at (m : Bool) (t : DP) (x : R) (r1 : Env) : kPc1 m t x r1 = pcK t (parP m x r1) := of_eq_true (eq_true rfl)
@[simp] theorem x_pcons (m : Bool) (a : DE) (t : DP) (r : Env) : pCons m a t r = (a r).bind (kPc1 m t) := by
  unfold pCons
  cases a r with
  | ok x r1 => rw [bind_ok, bind_ok, kPc1_at]; cases parP m x r1 <;> rfl
  | ex e r1 => rfl
  | bad => rfl
@[simp] theorem parP_va (m : Bool) (d : D) (r : Env) : parP m (.va d) r = some (.va false d, r) := by cases m <;> rfl
@[simp] theorem parP_nwt (d : D) (r : Env) : parP true (.nw d) r = some (.ow false false d, r) := rfl
@[simp] theorem parP_nwf (d : D) (r : Env) : parP false (.nw d) r = some (.va false d, r) := rfl
def parS1 : Option (D × Env) → Option (Sl × Env)
  | some (d, r2) => some (.va false d, r2)
  | none => none
@[simp] theorem parS1_some (d : D) (r : Env) : parS1 (some (d, r)) = some (.va false d, r) := rfl
@[simp] theorem parP_sl (m : Bool) (i : Nat) (r : Env) : parP m (.sl i) r = parS1 (esc r (.sl i)) := by
  have h : parP m (.sl i) r = (esc r (.sl i)).map fun (d, r2) => (Sl.va false d, r2) := by cases m <;> rfl
  rw [h]
  cases esc r (.sl i) <;> rfl
def stLK (is : List Nat) (ss : List Sl) : Option Env → Option Env
  | some r => storeL is ss r
  | none => none
@[simp] theorem stLK_some (is : List Nat) (ss : List Sl) (r : Env) : stLK is ss (some r) = storeL is ss r := rfl
@[simp] theorem storeL_nil (r : Env) : storeL [] [] r = some r := rfl
@[simp] theorem storeL_cons (i : Nat) (is : List Nat) (s : Sl) (ss : List Sl) (r : Env) : storeL (i :: is) (s :: ss) r = stLK is ss (store i s r) := by
  conv => lhs; unfold storeL
  cases store i s r <;> rfl
def kSt2 (ds : List D) : List D → Env → Out (List D) := fun es r2 => .ok (ds ++ es) r2
@[simp] theorem kSt2_at (ds es : List D) (r2 : Env) : kSt2 ds es r2 = .ok (ds ++ es) r2 := of_eq_true (eq_true rfl)
def starK (t : DA) (r1 : Env) : Option (List D) → Out (List D)
  | some ds => (t r1).bind (kSt2 ds)
  | none => .bad
@[simp] theorem starK_some (t : DA) (r1 : Env) (ds : List D) : starK t r1 (some ds) = (t r1).bind (kSt2 ds) := of_eq_true (eq_true rfl)
def kSt1 (t : DA) : R → Env → Out (List D) := fun x r1 => starK t r1 ((der r1 x).bind items)
@[simp] theorem kSt1_at (t : DA) (x : R) (r1 : Env) : kSt1 t x r1 = starK t r1 ((der r1 x).bind items) := of_eq_true (eq_true rfl)
@[simp] theorem x_star (a : DE) (t : DA) (r : Env) : aStar a t r = (a r).bind (kSt1 t) := by
  unfold aStar
  cases a r with
  | ok x r1 => rw [bind_ok, bind_ok, kSt1_at]; cases (der r1 x).bind items <;> rfl
  | ex e r1 => rfl
  | bad => rfl
def kC6 (h : D → D → Option R) (z : R) : R → Env → Out R := fun u r6 => opt ((der r6 z).bind fun w => (der r6 u).bind fun u => h w u) r6
@[simp] theorem kC6_at (h : D → D → Option R) (z u : R) (r6 : Env) : kC6 h z u r6 = opt ((der r6 z).bind fun w => (der r6 u).bind fun u => h w u) r6 := of_eq_true (eq_true rfl)
def kC5 (h : D → D → Option R) (e : DE) (z : R) : Bool → Env → Out R := fun k' r5 => if k' = true then (e r5).bind (kC6 h z) else .ok (.va (.bool false)) r5
@[simp] theorem kC5_at (h : D → D → Option R) (e : DE) (z : R) (k' : Bool) (r5 : Env) : kC5 h e z k' r5 = if k' = true then (e r5).bind (kC6 h z) else .ok (.va (.bool false)) r5 := of_eq_true (eq_true rfl)
def kC4 (g h : D → D → Option R) (e : DE) (y : R) : R → Env → Out R := fun z r4 => (opt ((der r4 y).bind fun v => (der r4 z).bind fun w => (g v w).bind fun z => (der r4 z).bind asB) r4).bind (kC5 h e z)
@[simp] theorem kC4_at (g h : D → D → Option R) (e : DE) (y z : R) (r4 : Env) : kC4 g h e y z r4 = (opt ((der r4 y).bind fun v => (der r4 z).bind fun w => (g v w).bind fun z => (der r4 z).bind asB) r4).bind (kC5 h e z) := of_eq_true (eq_true rfl)
def kC3 (g h : D → D → Option R) (c e : DE) (y : R) : Bool → Env → Out R := fun k r3 => if k = true then (c r3).bind (kC4 g h e y) else .ok (.va (.bool false)) r3
@[simp] theorem kC3_at (g h : D → D → Option R) (c e : DE) (y : R) (k : Bool) (r3 : Env) : kC3 g h c e y k r3 = if k = true then (c r3).bind (kC4 g h e y) else .ok (.va (.bool false)) r3 := of_eq_true (eq_true rfl)
def kC2 (f g h : D → D → Option R) (c e : DE) (x : R) : R → Env → Out R := fun y r2 => (opt ((der r2 x).bind fun u => (der r2 y).bind fun v => (f u v).bind fun z => (der r2 z).bind asB) r2).bind (kC3 g h c e y)
@[simp] theorem kC2_at (f g h : D → D → Option R) (c e : DE) (x y : R) (r2 : Env) : kC2 f g h c e x y r2 = (opt ((der r2 x).bind fun u => (der r2 y).bind fun v => (f u v).bind fun z => (der r2 z).bind asB) r2).bind (kC3 g h c e y) := of_eq_true (eq_true rfl)
def kC1 (f g h : D → D → Option R) (b c e : DE) : R → Env → Out R := fun x r1 => (b r1).bind (kC2 f g h c e x)
@[simp] theorem kC1_at (f g h : D → D → Option R) (b c e : DE) (x : R) (r1 : Env) : kC1 f g h b c e x r1 = (b r1).bind (kC2 f g h c e x) := of_eq_true (eq_true rfl)
@[simp] theorem x_chain3 (f g h : D → D → Option R) (a b c e : DE) (r : Env) : dChain3 f g h a b c e r = (a r).bind (kC1 f g h b c e) := of_eq_true (eq_true rfl)
theorem fFdiv_pos {i j : Int} (h : 0 < j) (h2 : j.natAbs.log2 < 9000) : fFdiv (.int i) (.int j) = some (.va (.int (i / j))) := by
  have e : iFdiv i j = some (i / j) := by
    unfold iFdiv
    rw [Int.fdiv_eq_ediv_of_nonneg i (by omega)]
    split
    · rfl
    · rw [if_pos ⟨h, h2⟩]
  simp only [fFdiv, fII, e, Option.map_some]
def F_divisor_w1 : DT := (SE.tB (dOp fGt (dVar 1) (dC (.int 0))))
def F_divisor_l2 : DS := (sSeq (sParP [0, 1] (pCons false (dVar 1) (pCons false (dOp fMod (dVar 0) (dVar 1)) pNil)))
  sNext)
def F_divisor : Fn := mkFn 2 2
  (sSeq (sParP [0, 1] (pCons false (dB (f1 gAbs) (rCons (dVar 0) rNil)) (pCons false (dB (f1 gAbs) (rCons (dVar 1) rNil)) pNil)))
  (sSeq (sWhile F_divisor_w1 F_divisor_l2)
  (sSeq (sRet (dVar 0))
  sNext)))
theorem half_step {x y : Nat} (h : y ≤ x) (hy : 0 < y) : 2 * (y * (x % y)) ≤ x * y := by
  have h1 : 2 * (x % y) ≤ x := by
    have := Nat.mod_lt x hy
    have e := Nat.div_add_mod x y
    have h2 : 1 ≤ x / y := (Nat.one_le_div_iff hy).mpr h
    have h3 : y * 1 ≤ y * (x / y) := Nat.mul_le_mul_left _ h2
    omega
  calc 2 * (y * (x % y)) = (2 * (x % y)) * y := by rw [Nat.mul_comm y, ← Nat.mul_assoc]
    _ ≤ x * y := Nat.mul_le_mul_right _ h1
/-- n turns are enough -/
def Enough (x y n : Nat) : Prop := (y ≤ x ∧ x * y < 2 ^ n) ∨ (x < y ∧ ∃ m, n = m + 1 ∧ x * y < 2 ^ m)
theorem enough_next {x y n : Nat} (hy : 0 < y) (h : Enough x y n) : ∃ m, n = m + 1 ∧ Enough y (x % y) m := by
  rcases h with ⟨h1, h2⟩ | ⟨h1, m, e, h2⟩
  · have h3 := half_step h1 hy
    have h4 : 0 < x * y := Nat.mul_pos (by omega) hy
    cases n with
    | zero => simp at h2; omega
    | succ n =>
      refine ⟨n, rfl, .inl ⟨Nat.le_of_lt (Nat.mod_lt x hy), ?_⟩⟩
      rw [Nat.pow_succ] at h2
      omega
  · refine ⟨m, e, .inl ⟨Nat.le_of_lt (Nat.mod_lt x hy), ?_⟩⟩
    rw [Nat.mod_eq_of_lt h1, Nat.mul_comm]
    exact h2
theorem enough_of {x y k : Nat} (hx : x < 2 ^ k) (hy : y < 2 ^ k) : Enough x y (2 * k + 1) := by
  have h : x * y < 2 ^ (2 * k) := by
    rw [Nat.two_mul, Nat.pow_add]
    exact Nat.mul_lt_mul'' hx hy
  by_cases c : y ≤ x
  · exact .inl ⟨c, Nat.lt_of_lt_of_le h (Nat.pow_le_pow_right (by decide) (by omega))⟩
  · exact .inr ⟨by omega, 2 * k, rfl, h⟩
theorem divisor_ok {a b : Int} (ha : a.natAbs < 2 ^ 1000) (hb : b.natAbs < 2 ^ 1000) (p q : Bool) : F_divisor [.va p (.int a), .va q (.int b)] = .ok (.va (.int (Int.gcd a b))) [.va p (.int a), .va q (.int b)] := by
  have key : ∀ (g : Nat) (r : Env), (∃ (n x y : Nat), n < 1000000000 ∧ r = [.va false (.int x), .va false (.int y)] ∧ Nat.gcd x y = g ∧ Enough x y n) → sWhile F_divisor_w1 F_divisor_l2 r = .nx [.va false (.int g), .va false (.int 0)] := by
    rintro g r ⟨n, x, y, hn, hr, hg, he⟩
    refine sWhile_post (Q := fun o => o = .nx [.va false (.int g), .va false (.int 0)]) (fun n r => ∃ (x y : Nat), r = [.va false (.int x), .va false (.int y)] ∧ Nat.gcd x y = g ∧ Enough x y n) ?_ n hn ⟨x, y, hr, hg, he⟩
    rintro n r ⟨x, y, rfl, hg, he⟩
    by_cases hy : y = 0
    · subst hy
      rw [Nat.gcd_zero_right] at hg
      subst hg
      exact .inl ⟨[.va false (.int x), .va false (.int 0)], by simp [F_divisor_w1], rfl⟩
    · obtain ⟨m, e, h2⟩ := enough_next (by omega) he
      have hm := fMod_i (i := (x : Int)) (j := (y : Int)) (by omega)
      refine .inr ⟨m, [.va false (.int x), .va false (.int y)], e, by simp [F_divisor_w1]; omega, ?_⟩
      simp [F_divisor_l2, hm]
      exact ⟨y, x % y, by simp, by rw [← hg, Nat.gcd_comm y, ← Nat.gcd_rec, Nat.gcd_comm], h2⟩
  have h1 := key (Int.gcd a b) [.va false (.int a.natAbs), .va false (.int b.natAbs)] ⟨2001, a.natAbs, b.natAbs, by decide, rfl, rfl, enough_of ha hb⟩
  simp [F_divisor, h1]
/-- a fraction, cancelled -/
def frI (a b : Int) : Int × Int := (a / (Int.gcd a b : Int), b / (Int.gcd a b : Int))
def F_ratio : Fn := mkFn 2 3
  (sSeq (sIf (SE.tB (dOp fEq (dVar 1) (dC (.int 0)))) (sSeq (sRaise (Str.ofString "NotAllowed"))
  sNext) sNext)
  (sSeq (sAsg false 2 (dCall F_divisor (rCons (dVar 0) (rCons (dVar 1) rNil))))
  (sSeq (sIf (SE.tB (dOp fLt (dVar 1) (dC (.int 0)))) (sSeq (sAsg false 2 (dUn fNeg (dVar 2)))
  sNext) sNext)
  (sSeq (sRet (dTup (aCons (dOp fFdiv (dVar 0) (dVar 2)) (aCons (dOp fFdiv (dVar 1) (dVar 2)) aNil))))
  sNext))))
theorem gcd_pos {a b : Int} (h : 0 < b) : 0 < (Int.gcd a b : Int) := by
  have : Int.gcd a b ≠ 0 := fun e => by
    have := (Int.gcd_eq_zero_iff.mp e).2
    omega
  omega
theorem gcd_log {a b : Int} (h : 0 < b) (hb : b.natAbs < 2 ^ 1000) : (Int.gcd a b : Int).natAbs.log2 < 9000 := by
  have h1 : Int.gcd a b ≤ b.natAbs := Nat.le_of_dvd (by omega) (Int.gcd_dvd_natAbs_right a b)
  have h2 : Int.gcd a b ≠ 0 := by have := gcd_pos (a := a) h; omega
  have h3 : Int.gcd a b < 2 ^ 1000 := Nat.lt_of_le_of_lt h1 hb
  rw [Int.natAbs_natCast]
  exact Nat.lt_of_lt_of_le ((Nat.log2_lt h2).mpr h3) (by decide)
theorem ratio_ok {a b : Int} (ha : a.natAbs < 2 ^ 1000) (hb : b.natAbs < 2 ^ 1000) (h : 0 < b) (p q : Bool) : F_ratio [.va p (.int a), .va q (.int b)] = .ok (.va (prI (frI a b))) [.va p (.int a), .va q (.int b)] := by
  have hd := divisor_ok ha hb false false
  have h1 := fFdiv_pos (i := a) (gcd_pos (a := a) h) (gcd_log h hb)
  have h2 := fFdiv_pos (i := b) (gcd_pos (a := a) h) (gcd_log h hb)
  simp [F_ratio, show ¬ b = 0 by omega, show ¬ b < 0 by omega, hd, h1, h2, lim, frI]
theorem ratio_zero (a : Int) (p q : Bool) : F_ratio [.va p (.int a), .va q (.int 0)] = .ex ⟨Str.ofString "NotAllowed", []⟩ [.va p (.int a), .va q (.int 0)] := by
  simp [F_ratio]
def F_less : Fn := mkFn 2 2
  (sSeq (sRet (dOp fLt (dOp fMul (dOp fIx (dVar 0) (dC (.int 0))) (dOp fIx (dVar 1) (dC (.int 1)))) (dOp fMul (dOp fIx (dVar 1) (dC (.int 0))) (dOp fIx (dVar 0) (dC (.int 1))))))
  sNext)
theorem less_ok {a b c d : Int} (h1 : a.natAbs < 18446744073709551616 ∨ d.natAbs < 18446744073709551616) (h2 : c.natAbs < 18446744073709551616 ∨ b.natAbs < 18446744073709551616) (p q : Bool) :
    F_less [.va p (prI (a, b)), .va q (prI (c, d))] = .ok (.va (.bool (decide (a * d < c * b)))) [.va p (prI (a, b)), .va q (prI (c, d))] := by
  simp [F_less, fMul_i h1, fMul_i h2]
def F_gcd_l1 : DS := (sSeq (sIf (SE.tB (dOp fEq (dVar 1) (dC (.int 0)))) (sSeq sBreak
  sNext) sNext)
  (sSeq (sParP [0, 1] (pCons false (dVar 1) (pCons false (dOp fMod (dVar 0) (dVar 1)) pNil)))
  sNext))
def F_gcd : Fn := mkFn 2 3
  (sSeq (sFor (SE.iRng1 (dC (.int 400))) (.v 2) F_gcd_l1)
  (sSeq (sRet (dB (f1 gAbs) (rCons (dVar 0) rNil)))
  sNext))
theorem gcd_loop (g : Nat) : ∀ (t : Nat) (k : Int) (n x y : Nat) (s : Sl), Stb s → n < t → Nat.gcd x y = g → Enough x y n → ∃ s', forL (.v 2) F_gcd_l1 (rng k t) [.va false (.int x), .va false (.int y), s] = .nx [.va false (.int g), .va false (.int 0), s']
  | 0, k, n, x, y, s, _, hn, _, _ => by omega
  | t + 1, k, n, x, y, s, hs, hn, hg, he => by
    rw [rng_succ, forL_c]
    by_cases hy : y = 0
    · subst hy
      rw [Nat.gcd_zero_right] at hg
      subst hg
      exact ⟨_, by simp [storeK_stb hs, F_gcd_l1]; rfl⟩
    · obtain ⟨m, e, h2⟩ := enough_next (by omega) he
      have hm := fMod_i (i := (x : Int)) (j := (y : Int)) (by omega)
      obtain ⟨s', ih⟩ := gcd_loop g t (k + 1) m y (x % y) (.va false (.int k)) (stb_va _) (by omega) (by rw [← hg, Nat.gcd_comm y, ← Nat.gcd_rec, Nat.gcd_comm]) h2
      refine ⟨s', ?_⟩
      rw [← ih]
      have hy' : ¬ ((y : Int) = 0) := by omega
      simp [storeK_stb hs, F_gcd_l1, hy, hm]
theorem gcd_ok {a b : Int} (ha0 : 0 ≤ a) (hb0 : 0 ≤ b) (ha : a.natAbs < 2 ^ 190) (hb : b.natAbs < 2 ^ 190) (p q : Bool) : F_gcd [.va p (.int a), .va q (.int b)] = .ok (.va (.int (Int.gcd a b))) [.va p (.int a), .va q (.int b)] := by
  obtain ⟨s', h⟩ := gcd_loop (Int.gcd a b) 400 0 381 a.natAbs b.natAbs .un trivial (by decide) rfl (enough_of ha hb)
  have ea : ((a.natAbs : Nat) : Int) = a := by omega
  have eb : ((b.natAbs : Nat) : Int) = b := by omega
  rw [ea, eb] at h
  simp [F_gcd, h]
def F_fraction : Fn := mkFn 2 3
  (sSeq (sAsg false 2 (dCall F_gcd (rCons (dVar 0) (rCons (dVar 1) rNil))))
  (sSeq (sRet (dTup (aCons (dOp fFdiv (dVar 0) (dVar 2)) (aCons (dOp fFdiv (dVar 1) (dVar 2)) aNil))))
  sNext))
theorem fraction_ok {a b : Int} (ha0 : 0 ≤ a) (hb0 : 0 < b) (ha : a.natAbs < 2 ^ 190) (hb : b.natAbs < 2 ^ 190) (p q : Bool) : F_fraction [.va p (.int a), .va q (.int b)] = .ok (.va (prI (frI a b))) [.va p (.int a), .va q (.int b)] := by
  have hb2 : b.natAbs < 2 ^ 1000 := Nat.lt_of_lt_of_le hb (Nat.pow_le_pow_right (by decide) (show 190 ≤ 1000 by decide))
  have hd := gcd_ok ha0 (by omega) ha hb false false
  have h1 := fFdiv_pos (i := a) (gcd_pos (a := a) hb0) (gcd_log hb0 hb2)
  have h2 := fFdiv_pos (i := b) (gcd_pos (a := a) hb0) (gcd_log hb0 hb2)
  simp [F_fraction, hd, h1, h2, lim, frI]
theorem fr_mul (a b : Int) : a = (Int.gcd a b : Int) * (frI a b).1 ∧ b = (Int.gcd a b : Int) * (frI a b).2 :=
  ⟨(Int.mul_ediv_cancel' (Int.gcd_dvd_left a b)).symm, (Int.mul_ediv_cancel' (Int.gcd_dvd_right a b)).symm⟩
theorem fr_gcd {a b : Int} (hb : 0 < b) : Int.gcd (frI a b).1 (frI a b).2 = 1 := by
  have := gcd_pos (a := a) hb
  exact Int.gcd_ediv_gcd_ediv_gcd (by omega)
theorem fr_pos {a b : Int} (hb : 0 < b) : 0 < (frI a b).2 := by
  have h1 := gcd_pos (a := a) hb
  have h2 := (fr_mul a b).2
  by_cases z : 0 < (frI a b).2
  · exact z
  · exfalso
    have : (Int.gcd a b : Int) * (frI a b).2 ≤ 0 := Int.mul_nonpos_of_nonneg_of_nonpos (by omega) (by omega)
    omega
theorem dvd_cop {k m n : Int} (h : k ∣ m * n) (g : Int.gcd k m = 1) : k ∣ n := by
  have := Int.dvd_gcd_mul_iff_dvd_mul.mpr h
  rw [g] at this
  simpa using this
/-- equal fractions are cancelled to the same -/
theorem frI_eq {a b c d : Int} (hb : 0 < b) (hd : 0 < d) (h : a * d = c * b) : frI a b = frI c d := by
  obtain ⟨a1, b1⟩ := fr_mul a b
  obtain ⟨c1, d1⟩ := fr_mul c d
  have g1 := gcd_pos (a := a) hb
  have g2 := gcd_pos (a := c) hd
  have k1 := fr_gcd (a := a) hb
  have k2 := fr_gcd (a := c) hd
  have p1 := fr_pos (a := a) hb
  have p2 := fr_pos (a := c) hd
  generalize (Int.gcd a b : Int) = g at *
  generalize (Int.gcd c d : Int) = g' at *
  generalize frI a b = P at *
  generalize frI c d = P2 at *
  obtain ⟨a', b'⟩ := P
  obtain ⟨c', d'⟩ := P2
  simp only at *
  have e : (g * g') * (a' * d') = (g * g') * (c' * b') := by
    rw [a1, b1, c1, d1] at h
    have e1 : g * a' * (g' * d') = (g * g') * (a' * d') := by simp only [Int.mul_assoc, Int.mul_left_comm]
    have e2 : g' * c' * (g * b') = (g * g') * (c' * b') := by rw [Int.mul_comm g g']; simp only [Int.mul_assoc, Int.mul_left_comm]
    rw [← e1, ← e2]
    exact h
  have hgg : g * g' ≠ 0 := Int.mul_ne_zero (by omega) (by omega)
  have e' := Int.eq_of_mul_eq_mul_left hgg e
  have d1' : b' ∣ d' := by
    have : b' ∣ a' * d' := ⟨c', by rw [e', Int.mul_comm]⟩
    exact dvd_cop this (by rw [Int.gcd_comm]; exact k1)
  have d2' : d' ∣ b' := by
    have : d' ∣ c' * b' := ⟨a', by rw [← e', Int.mul_comm]⟩
    exact dvd_cop this (by rw [Int.gcd_comm]; exact k2)
  have eb : b' = d' := Int.dvd_antisymm (by omega) (by omega) d1' d2'
  subst eb
  have ea : a' = c' := Int.eq_of_mul_eq_mul_right (by omega) e'
  rw [ea]
end SE
set_option Elab.async false
set_option linter.all false
set_option maxRecDepth 100000
set_option maxHeartbeats 1000000
namespace SE
open PySem
theorem fIx_mem {ds : List D} {i : Int} (h0 : 0 ≤ i) (h1 : i < ds.length) : ∃ d, d ∈ ds ∧ fIx (.list ds) (.int i) = some (.va d) :=
  ⟨ds[i.toNat]'(by omega), List.getElem_mem _, fIx_l h0 (List.getElem?_eq_getElem (by omega))⟩
theorem sm_ints {ws : List Int} {n : Nat} (hl : ws.length ≤ n) (h : ∀ w ∈ ws, w.natAbs < 1000000000000) : Sm 1 (41 * n) (.tuple (ws.map PyData.int)) := by
  refine sm_tuple (k := 0) (n := 40) (fun d hd => ?_) ?_
  · obtain ⟨w, hw, rfl⟩ := List.mem_map.mp hd
    exact sm_int (h w hw) 0
  · rw [List.length_map, Nat.mul_comm]
    exact Nat.mul_le_mul_left _ hl
theorem sm_pair {a b : Int} (ha : a.natAbs < 1000000000000) (hb : b.natAbs < 1000000000000) : Sm 1 82 (prI (a, b)) := by
  have := sm_ints (ws := [a, b]) (n := 2) (by simp) (fun w hw => by
    simp only [List.mem_cons, List.not_mem_nil, or_false] at hw
    rcases hw with rfl | rfl <;> assumption)
  exact this
/-- the greatest and the least of a list -/
def mxL (xs : List Int) : Int := match xs with
  | [] => 0
  | b :: r => r.foldl mxI b
def mnL (xs : List Int) : Int := match xs with
  | [] => 0
  | b :: r => r.foldl mnI b
theorem fMax_tL {xs : List Int} (h : xs ≠ []) : fMax [.tuple (xs.map PyData.int)] = some (.va (.int (mxL xs))) := by
  cases xs with
  | nil => exact absurd rfl h
  | cons b r => exact fMax_t b r
theorem fMin_tL {xs : List Int} (h : xs ≠ []) : fMin [.tuple (xs.map PyData.int)] = some (.va (.int (mnL xs))) := by
  cases xs with
  | nil => exact absurd rfl h
  | cons b r => exact fMin_t b r
theorem fMax_lL {xs : List Int} (h : xs ≠ []) : fMax [.list (xs.map PyData.int)] = some (.va (.int (mxL xs))) := by
  cases xs with
  | nil => exact absurd rfl h
  | cons b r => exact fMax_l b r
theorem fMin_lL {xs : List Int} (h : xs ≠ []) : fMin [.list (xs.map PyData.int)] = some (.va (.int (mnL xs))) := by
  cases xs with
  | nil => exact absurd rfl h
  | cons b r => exact fMin_l b r
theorem mxL_ge {xs : List Int} {x : Int} (h : x ∈ xs) : x ≤ mxL xs := by
  cases xs with
  | nil => cases h
  | cons b r => rcases List.mem_cons.mp h with rfl | h
                · exact (foldl_mxI_ge r _).1
                · exact (foldl_mxI_ge r b).2 x h
theorem mxL_mem {xs : List Int} (h : xs ≠ []) : mxL xs ∈ xs := by
  cases xs with
  | nil => exact absurd rfl h
  | cons b r => exact foldl_mxI_mem r b
theorem mnL_le {xs : List Int} {x : Int} (h : x ∈ xs) : mnL xs ≤ x := by
  cases xs with
  | nil => cases h
  | cons b r => rcases List.mem_cons.mp h with rfl | h
                · exact (foldl_mnI_le r _).1
                · exact (foldl_mnI_le r b).2 x h
theorem mnL_mem {xs : List Int} (h : xs ≠ []) : mnL xs ∈ xs := by
  cases xs with
  | nil => exact absurd rfl h
  | cons b r => exact foldl_mnI_mem r b
theorem mxL_eq {xs : List Int} {m : Int} (h : m ∈ xs) (k : ∀ x ∈ xs, x ≤ m) : mxL xs = m :=
  Int.le_antisymm (k _ (mxL_mem (List.ne_nil_of_mem h))) (mxL_ge h)
theorem mnL_eq {xs : List Int} {m : Int} (h : m ∈ xs) (k : ∀ x ∈ xs, m ≤ x) : mnL xs = m :=
  Int.le_antisymm (mnL_le h) (k _ (mnL_mem (List.ne_nil_of_mem h)))
/-- comparing cancelled fractions -/
theorem fr_lt {a b c d : Int} (hb : 0 < b) (hd : 0 < d) : (frI a b).1 * (frI c d).2 < (frI c d).1 * (frI a b).2 ↔ a * d < c * b := by
  obtain ⟨e1, e2⟩ := fr_mul a b
  obtain ⟨e3, e4⟩ := fr_mul c d
  have g1 := gcd_pos (a := a) hb
  have g2 := gcd_pos (a := c) hd
  generalize (Int.gcd a b : Int) = g at *
  generalize (Int.gcd c d : Int) = k at *
  generalize frI a b = P at *
  generalize frI c d = Q at *
  rw [e1, e2, e3, e4]
  have f1 : g * P.1 * (k * Q.2) = (g * k) * (P.1 * Q.2) := by ac_rfl
  have f2 : k * Q.1 * (g * P.2) = (g * k) * (Q.1 * P.2) := by ac_rfl
  rw [f1, f2]
  exact ⟨fun h => Int.mul_lt_mul_of_pos_left h (Int.mul_pos g1 g2), fun h => Int.lt_of_mul_lt_mul_left h (Int.le_of_lt (Int.mul_pos g1 g2))⟩
theorem fr_le1 {a b x y : Int} (hb : 0 < b) : (frI a b).1 * y ≤ x * (frI a b).2 ↔ a * y ≤ x * b := by
  obtain ⟨e1, e2⟩ := fr_mul a b
  have g1 := gcd_pos (a := a) hb
  generalize (Int.gcd a b : Int) = g at *
  generalize frI a b = P at *
  rw [e1, e2]
  have f1 : g * P.1 * y = g * (P.1 * y) := by ac_rfl
  have f2 : x * (g * P.2) = g * (x * P.2) := by ac_rfl
  rw [f1, f2]
  exact ⟨fun h => Int.mul_le_mul_of_nonneg_left h (Int.le_of_lt g1), fun h => Int.le_of_mul_le_mul_left h g1⟩
theorem fr_le2 {a b x y : Int} (hb : 0 < b) : x * (frI a b).2 ≤ (frI a b).1 * y ↔ x * b ≤ a * y := by
  obtain ⟨e1, e2⟩ := fr_mul a b
  have g1 := gcd_pos (a := a) hb
  generalize (Int.gcd a b : Int) = g at *
  generalize frI a b = P at *
  rw [e1, e2]
  have f1 : g * P.1 * y = g * (P.1 * y) := by ac_rfl
  have f2 : x * (g * P.2) = g * (x * P.2) := by ac_rfl
  rw [f1, f2]
  exact ⟨fun h => Int.mul_le_mul_of_nonneg_left h (Int.le_of_lt g1), fun h => Int.le_of_mul_le_mul_left h g1⟩
/-- [f(next(state, m)) for .. in ..], where the walked thing may draw too -/
theorem lcRun_drawF {α : Type} (f : Int → D) (ns : List Int) {m : Int} (hm : 0 < m) : ∀ (xs : List α) (c : Int), ∃ ds : List Int, lcRun (fun (c : Int) (_ : α) => (some (f (drw ns c m)), c + 1)) c xs = (ds.map f, c + xs.length) ∧ ds.length = xs.length ∧ ∀ d ∈ ds, 0 ≤ d ∧ d < m
  | [], c => ⟨[], by simp [lcRun], rfl, fun d h => (by cases h)⟩
  | x :: xs, c => by
    obtain ⟨ds, h1, h2, h3⟩ := lcRun_drawF f ns hm xs (c + 1)
    refine ⟨drw ns c m :: ds, ?_, by simp [h2], fun d hd => ?_⟩
    · unfold lcRun
      simp only [h1, List.map_cons, List.length_cons]
      congr 1
      omega
    · rcases List.mem_cons.mp hd with rfl | hd
      · exact ⟨drw_lo _ _ hm, drw_hi _ _ hm⟩
      · exact h3 d hd
theorem lc_drawsF {α : Type} {vs : List Nat} {it : DI} {p : Pat} {e : DE} {r0 r : Env} {i : Nat} {b : Bool} {ns : List Int} {c m : Int} (f : Int → D) (en : α → D) (xs : List α) (hm : 0 < m) (hit : it r0 = .ok (xs.map en, none) r) (hv : vs.all (notOw r) = true)
    (hri : r[i]? = some (.ow b false (stD ns c))) (hi : i ∉ vs) (hc : 0 ≤ c) (hc2 : c + xs.length < 1000000000000000) (hl : xs.length ≤ lim)
    (h : ∀ (c' : Int) (x : α), 0 ≤ c' → c' < 1000000000000000 → x ∈ xs → lcA vs tYes e (some (f (drw ns c' m))) (wipeE vs (r.set i (.ow b false (stD ns (c' + 1))))) (put p (en x) (wipeE vs (r.set i (.ow b false (stD ns c')))))) :
    ∃ ds : List Int, dLc vs it p tYes e r0 = .ok (.nw (.list (ds.map f))) (r.set i (.ow b false (stD ns (c + xs.length)))) ∧ ds.length = xs.length ∧ ∀ d ∈ ds, 0 ≤ d ∧ d < m := by
  obtain ⟨ds, h1, h2, h3⟩ := lcRun_drawF f ns hm xs c
  have hir : i < r.length := (List.getElem?_eq_some_iff.mp hri).1
  have hself : r.set i (.ow b false (stD ns c)) = r := by
    apply List.ext_getElem?
    intro k
    rw [List.getElem?_set]
    by_cases e : i = k
    · subst e; rw [if_pos rfl, if_pos hir, hri]
    · simp [e]
  obtain ⟨_, r2, b1, b2⟩ := lc_run (S := Int) (p := p) (t := tYes) (e := e) en (fun c' => wipeE vs (r.set i (.ow b false (stD ns c')))) (fun n c' => 0 ≤ c' ∧ c' + n < 1000000000000000) (fun (c' : Int) (_ : α) => (some (f (drw ns c' m)), c' + 1)) xs c hit hv (by show wipeE vs r = _; rw [hself]) ⟨hc, hc2⟩
    (fun c' x n hI hx => ⟨⟨by have := hI.1; show 0 ≤ c' + 1; omega, by have := hI.2; show c' + 1 + n < _; omega⟩, h c' x hI.1 (by have := hI.2; omega) hx⟩) (by rw [h1]; simp only [List.length_map]; omega)
  refine ⟨ds, ?_, h2, h3⟩
  rw [b1, h1]
  congr 1
  rw [h1] at b2
  simp only at b2
  show backE r vs r2 = _
  have hlen : r2.length = r.length := by
    rw [wipe_len b2, wipeE_len, List.length_set]
  apply List.ext_getElem?
  intro k
  rw [backE_get r vs r2 k hlen]
  by_cases hk : k ∈ vs
  · rw [if_pos hk, List.getElem?_set, if_neg (fun e => hi (by rw [e]; exact hk))]
  · rw [if_neg hk]
    have : (wipeE vs r2)[k]? = (wipeE vs (r.set i (.ow b false (stD ns (c + xs.length)))))[k]? := by rw [b2]
    rw [wipeE_get, wipeE_get, if_neg (fun z => hk z.1), if_neg (fun z => hk z.1)] at this
    exact this
theorem gSorted_l (xs : List Int) : gSorted (.list (xs.map PyData.int)) = some (.nw (.list ((sortI xs).map PyData.int))) := by
  have e : ∀ ys : List Int, asInts (ys.map PyData.int) = some ys := by
    intro ys
    induction ys with
    | nil => rfl
    | cons y ys ih =>
      rw [List.map_cons]
      unfold asInts
      simp only [ih, Option.map_some]
  unfold gSorted
  simp only [e, Option.map_some]
theorem fNe_pr (p q : Int × Int) : fNe (prI p) (prI q) = some (.va (.bool (!decide (p = q)))) := by
  have h1 := shaped_pr p
  have h2 := shaped_pr q
  obtain ⟨a, b⟩ := p
  obtain ⟨c, d⟩ := q
  simp [fNe, shp2, PyData.eqv, PyData.eqvAll, boolR]
  exact ⟨⟨h1, h2⟩, rfl⟩
theorem fEq_pr (p q : Int × Int) : fEq (prI p) (prI q) = some (.va (.bool (decide (p = q)))) := by
  have h1 := shaped_pr p
  have h2 := shaped_pr q
  obtain ⟨a, b⟩ := p
  obtain ⟨c, d⟩ := q
  simp [fEq, shp2, PyData.eqv, PyData.eqvAll, boolR]
  exact ⟨⟨h1, h2⟩, rfl⟩
theorem gSorted_t (xs : List Int) : gSorted (.tuple (xs.map PyData.int)) = some (.nw (.list ((sortI xs).map PyData.int))) := gSorted_l xs
theorem downI_cons {hi lo : Int} (h : lo < hi) : downI hi lo = hi :: downI (hi - 1) lo := by
  unfold downI
  obtain ⟨n, hn⟩ : ∃ n : Nat, (hi - lo).toNat = n + 1 := ⟨(hi - lo).toNat - 1, by omega⟩
  have hn2 : (hi - 1 - lo).toNat = n := by omega
  rw [hn, hn2, List.range_succ_eq_map, List.map_cons, List.map_map]
  congr 1
  · simp
  · apply List.map_congr_left
    intro k _
    simp only [Function.comp_def]
    omega
theorem downI_nil {hi lo : Int} (h : hi ≤ lo) : downI hi lo = [] := by
  unfold downI
  rw [show (hi - lo).toNat = 0 by omega]
  rfl
theorem fIx_lastL (qs : List Int) (x : Int) : fIx (.tuple ((qs ++ [x]).map PyData.int)) (.int (-1)) = some (.va (.int x)) := by
  unfold fIx L2.atI L2.ixN
  dsimp only
  rw [if_neg (by decide), if_pos (by simp; omega), Option.bind_some]
  have e : (-1 + (((qs ++ [x]).map PyData.int).length : Int)).toNat = qs.length := by simp; omega
  rw [e, List.getElem?_map, List.getElem?_append_right (Nat.le_refl _)]
  simp
theorem mul_small {a b A B : Int} (h1 : 0 ≤ a) (h2 : a ≤ A) (h3 : 0 ≤ b) (h4 : b ≤ B) : 0 ≤ a * b ∧ a * b ≤ A * B :=
  ⟨Int.mul_nonneg h1 h3, Int.mul_le_mul h2 h4 h3 (Int.le_trans h1 h2)⟩
theorem fr_cross {a b : Int} (c : Int) (hb : 0 < b) : (frI a b).1 * b = a * (frI a b).2 := by
  obtain ⟨e1, e2⟩ := fr_mul a b
  generalize (Int.gcd a b : Int) = g at *
  generalize frI a b = P at *
  rw [e1, e2]
  ac_rfl
/-- sums of cancelled fractions -/
theorem fr_add {S T a b x : Int} (hT : 0 < T) (hb : 0 < b) (h : a * T = x * b) : frI ((frI S T).1 * (frI a b).2 + (frI a b).1 * (frI S T).2) ((frI S T).2 * (frI a b).2) = frI (S + x) T := by
  have e1 := fr_cross (a := S) 0 hT
  have e2 := fr_cross (a := a) 0 hb
  have p1 := fr_pos (a := S) hT
  have p2 := fr_pos (a := a) hb
  refine frI_eq (Int.mul_pos p1 p2) hT ?_
  generalize frI S T = P at *
  generalize frI a b = Q at *
  have e3 : Q.1 * T = x * Q.2 := by
    have h1 : Q.1 * T * b = x * Q.2 * b := by
      have : Q.1 * T * b = Q.1 * b * T := by ac_rfl
      rw [this, e2]
      have : a * Q.2 * T = a * T * Q.2 := by ac_rfl
      rw [this, h]
      ac_rfl
    exact Int.eq_of_mul_eq_mul_right (by omega) h1
  have f1 : (P.1 * Q.2 + Q.1 * P.2) * T = (P.1 * T) * Q.2 + (Q.1 * T) * P.2 := by
    rw [Int.add_mul]
    congr 1 <;> ac_rfl
  rw [f1, e1, e3, Int.add_mul]
  congr 1 <;> ac_rfl
theorem fr_times {S T k : Int} (hT : 0 < T) (hk : 0 < k) : frI ((frI S T).1 * 1) ((frI S T).2 * k) = frI S (T * k) := by
  have e1 := fr_cross (a := S) 0 hT
  have p1 := fr_pos (a := S) hT
  refine frI_eq (Int.mul_pos p1 hk) (Int.mul_pos hT hk) ?_
  generalize frI S T = P at *
  have : P.1 * 1 * (T * k) = (P.1 * T) * k := by rw [Int.mul_one]; ac_rfl
  rw [this, e1]
  ac_rfl
theorem fr_bd {a b A B : Int} (h0 : 0 ≤ a) (h1 : a ≤ A) (h2 : 0 < b) (h3 : b ≤ B) : (0 ≤ (frI a b).1 ∧ (frI a b).1 ≤ A) ∧ 0 < (frI a b).2 ∧ (frI a b).2 ≤ B :=
  ⟨⟨Int.ediv_nonneg h0 (Int.natCast_nonneg _), Int.le_trans (Int.ediv_le_self _ h0) h1⟩, fr_pos h2, Int.le_trans (Int.ediv_le_self _ (by omega)) h3⟩
theorem cut_to (xs : List D) (k : Nat) : cut xs none (some (k : Int)) = xs.take k := by
  unfold cut
  rw [HT.sIx_nat]
  show (xs.drop 0).take (min k xs.length - 0) = _
  rw [List.drop_zero, Nat.sub_zero]
  rcases Nat.le_total k xs.length with h | h
  · rw [Nat.min_eq_left h]
  · rw [Nat.min_eq_right h, List.take_length, List.take_of_length_le h]
/-- draws below bounds of their own -/
theorem lcRun_drawV {α : Type} (f : α → Int → D) (mf : α → Int) (ns : List Int) : ∀ (xs : List α) (c : Int), (∀ x ∈ xs, 0 < mf x) → ∃ ds : List Int, lcRun (fun (c : Int) (x : α) => (some (f x (drw ns c (mf x))), c + 1)) c xs = (xs.zipWith f ds, c + xs.length) ∧ ds.length = xs.length ∧ ∀ (k : Nat) (x : α) (d : Int), xs[k]? = some x → ds[k]? = some d → 0 ≤ d ∧ d < mf x
  | [], c, hm => ⟨[], by simp [lcRun], rfl, fun k x d h => by simp at h⟩
  | x :: xs, c, hm => by
    obtain ⟨ds, h1, h2, h3⟩ := lcRun_drawV f mf ns xs (c + 1) fun y hy => hm y (List.mem_cons_of_mem _ hy)
    have hx := hm x List.mem_cons_self
    refine ⟨drw ns c (mf x) :: ds, ?_, by simp [h2], fun k y d hk hd => ?_⟩
    · unfold lcRun
      simp only [h1, List.zipWith_cons_cons, List.length_cons]
      congr 1
      omega
    · cases k with
      | zero =>
        simp only [List.getElem?_cons_zero, Option.some.injEq] at hk hd
        subst hk hd
        exact ⟨drw_lo _ _ hx, drw_hi _ _ hx⟩
      | succ k =>
        rw [List.getElem?_cons_succ] at hk hd
        exact h3 k y d hk hd
theorem lc_drawsV {α : Type} {vs : List Nat} {it : DI} {p : Pat} {e : DE} {r0 r : Env} {i : Nat} {b : Bool} {ns : List Int} {c : Int} (f : α → Int → D) (mf : α → Int) (en : α → D) (xs : List α) (hm : ∀ x ∈ xs, 0 < mf x) (hit : it r0 = .ok (xs.map en, none) r) (hv : vs.all (notOw r) = true)
    (hri : r[i]? = some (.ow b false (stD ns c))) (hi : i ∉ vs) (hc : 0 ≤ c) (hc2 : c + xs.length < 1000000000000000) (hl : xs.length ≤ lim)
    (h : ∀ (c' : Int) (x : α), 0 ≤ c' → c' < 1000000000000000 → x ∈ xs → lcA vs tYes e (some (f x (drw ns c' (mf x)))) (wipeE vs (r.set i (.ow b false (stD ns (c' + 1))))) (put p (en x) (wipeE vs (r.set i (.ow b false (stD ns c')))))) :
    ∃ ds : List Int, dLc vs it p tYes e r0 = .ok (.nw (.list (xs.zipWith f ds))) (r.set i (.ow b false (stD ns (c + xs.length)))) ∧ ds.length = xs.length ∧ ∀ (k : Nat) (x : α) (d : Int), xs[k]? = some x → ds[k]? = some d → 0 ≤ d ∧ d < mf x := by
  obtain ⟨ds, h1, h2, h3⟩ := lcRun_drawV f mf ns xs c hm
  have hir : i < r.length := (List.getElem?_eq_some_iff.mp hri).1
  have hself : r.set i (.ow b false (stD ns c)) = r := by
    apply List.ext_getElem?
    intro k
    rw [List.getElem?_set]
    by_cases e : i = k
    · subst e; rw [if_pos rfl, if_pos hir, hri]
    · simp [e]
  obtain ⟨_, r2, b1, b2⟩ := lc_run (S := Int) (p := p) (t := tYes) (e := e) en (fun c' => wipeE vs (r.set i (.ow b false (stD ns c')))) (fun n c' => 0 ≤ c' ∧ c' + n < 1000000000000000) (fun (c' : Int) (x : α) => (some (f x (drw ns c' (mf x))), c' + 1)) xs c hit hv (by show wipeE vs r = _; rw [hself]) ⟨hc, hc2⟩
    (fun c' x n hI hx => ⟨⟨by have := hI.1; show 0 ≤ c' + 1; omega, by have := hI.2; show c' + 1 + n < _; omega⟩, h c' x hI.1 (by have := hI.2; omega) hx⟩) (by rw [h1]; simp only [List.length_zipWith]; omega)
  refine ⟨ds, ?_, h2, h3⟩
  rw [b1, h1]
  congr 1
  rw [h1] at b2
  simp only at b2
  show backE r vs r2 = _
  have hlen : r2.length = r.length := by
    rw [wipe_len b2, wipeE_len, List.length_set]
  apply List.ext_getElem?
  intro k
  rw [backE_get r vs r2 k hlen]
  by_cases hk : k ∈ vs
  · rw [if_pos hk, List.getElem?_set, if_neg (fun e => hi (by rw [e]; exact hk))]
  · rw [if_neg hk]
    have : (wipeE vs r2)[k]? = (wipeE vs (r.set i (.ow b false (stD ns (c + xs.length)))))[k]? := by rw [b2]
    rw [wipeE_get, wipeE_get, if_neg (fun z => hk z.1), if_neg (fun z => hk z.1)] at this
    exact this
/-- a slot that holds no own list -/
def Nw : Sl → Prop
  | .un => True
  | .va false _ => True
  | _ => False
theorem Nw.stb {s : Sl} (h : Nw s) : Stb s := by
  cases s with
  | un => trivial
  | va p d => cases p <;> exact h
  | ow p l d => exact h.elim
theorem nw_va (d : D) : Nw (.va false d) := trivial
theorem zip_ints {α : Type} : ∀ (xs : List α) (ds : List Int), ds.length = xs.length → xs.zipWith (fun _ d => PyData.int d) ds = ds.map PyData.int
  | [], [], _ => rfl
  | x :: xs, d :: ds, h => by rw [List.zipWith_cons_cons, List.map_cons, zip_ints xs ds (by simpa using h)]
  | [], _ :: _, h => by simp at h
  | _ :: _, [], h => by simp at h
/-- pairs of great ints -/
theorem same_big {p : Int × Int} (h1 : p.1.natAbs < 10 ^ 60) (h2 : p.2.natAbs < 10 ^ 60) (x y : Bool) : F_same [.va x (prI p), .va y (prI p)] = .ok (.va (.bool true)) [.va x (prI p), .va y (prI p)] := by
  have one : ∀ i : Int, i.natAbs < 10 ^ 60 → (PyData.int i).canLay0 = true ∧ (PyData.int i).depth = 0 ∧ (PyData.int i).weight ≤ 200 ∧ (PyData.int i).intsShort 61 = true ∧ (PyData.int i).showable = true := by
    intro i h
    have h2 : i.natAbs ≠ 0 → i.natAbs.log2 < 200 := fun z => (Nat.log2_lt z).mpr (Nat.lt_of_lt_of_le h (by decide +kernel))
    have h3 : i.natAbs.log2 < 1920 := by
      by_cases z : i.natAbs = 0
      · rw [z]; decide
      · have := h2 z; omega
    refine ⟨by simp only [PyData.canLay0], by simp only [PyData.depth], ?_, ?_, by simp only [PyData.showable, decide_eq_true_eq]; exact h3⟩
    · simp only [PyData.weight]
      split
      · omega
      · rename_i hz
        have z : i.natAbs ≠ 0 := by
          intro e
          apply hz
          have : i = 0 := by omega
          simp [this]
        have := h2 z
        omega
    · simp only [PyData.intsShort, decide_eq_true_eq]
      show (Str.ofString (toString i)).length ≤ 61
      have := PySem.int_text_length_le10 (a := i) (k := 60) (by decide) h
      have e : (Str.ofString (toString i)).length = (toString i).length := ofString_length _
      rw [e]
      exact this
  obtain ⟨a1, a2, a3, a4, a5⟩ := one _ h1
  obtain ⟨b1, b2, b3, b4, b5⟩ := one _ h2
  have lay : (PyData.list [prI p]).canLay0 = true := by simp only [PyData.canLay0, PyData.canLayAll0, a1, b1, Bool.and_self]
  have dep : (PyData.list [prI p]).depth ≤ 64 := by simp only [PyData.depth, PyData.depthAll, a2, b2]; omega
  have ish : (PyData.list [prI p]).intsShort 61 = true := by simp only [PyData.intsShort, PyData.intsShortAll] at a4 b4 ⊢; simp only [a4, b4, Bool.and_self]
  have shw : (PyData.list [prI p]).showable = true := by simp only [PyData.showable, PyData.showableAll] at a5 b5 ⊢; simp only [a5, b5, Bool.and_self]
  have wt : (PyData.list [prI p]).weight ≤ 500 := by
    have e : (PyData.list [prI p]).weight = PyData.weightAll [prI p] := by simp only [PyData.weight]
    have e2 : (prI p).weight = PyData.weightAll [PyData.int p.1, PyData.int p.2] := by simp only [PyData.weight]
    rw [e]
    simp only [PyData.weightAll, e2]
    omega
  have sl := PyData.shown_le 61 (by decide) (.list [prI p]) (PyData.leavesShort_of_canLay0 61 _ lay ish)
  have e : showOk (.list [prI p]) = true := by
    simp only [showOk, SeqAt.shaped, Bool.and_eq_true, decide_eq_true_eq, lim]
    exact ⟨⟨shw, lay, dep⟩, decide_eq_true (Nat.le_trans sl (show (61 + 2) * (PyData.list [prI p]).weight + 61 ≤ 16777216 by omega))⟩
  simp only [prI] at e ⊢
  simp [F_same, e, lim]
/-- products of cancelled fractions -/
theorem fr_mul2 {a b c d : Int} (hb : 0 < b) (hd : 0 < d) : frI ((frI a b).1 * (frI c d).1) ((frI a b).2 * (frI c d).2) = frI (a * c) (b * d) := by
  have e1 := fr_cross (a := a) 0 hb
  have e2 := fr_cross (a := c) 0 hd
  have p1 := fr_pos (a := a) hb
  have p2 := fr_pos (a := c) hd
  refine frI_eq (Int.mul_pos p1 p2) (Int.mul_pos hb hd) ?_
  generalize frI a b = P at *
  generalize frI c d = Q at *
  have f1 : P.1 * Q.1 * (b * d) = (P.1 * b) * (Q.1 * d) := by ac_rfl
  rw [f1, e1, e2]
  ac_rfl
theorem fr_eq1 (a : Int) : frI a 1 = (a, 1) := by
  unfold frI
  simp
theorem fr_one {d : Int} : frI 1 d = (1, d) := by
  unfold frI
  rw [Int.one_gcd]
  simp
theorem fr_succ {k : Int} (h : 0 ≤ k) : frI k (k + 1) = (k, k + 1) := by
  have e : Int.gcd k (k + 1) = 1 := by
    rw [Int.gcd_self_add_right]
    exact Int.gcd_one_right k
  unfold frI
  rw [e]
  simp
theorem fr_scale {a b m : Int} (hb : 0 < b) (hm : 0 < m) : frI (a * m) (b * m) = frI a b := by
  refine frI_eq (Int.mul_pos hb hm) hb ?_
  ac_rfl
end SE
set_option Elab.async false
set_option linter.all false
set_option maxRecDepth 100000
set_option maxHeartbeats 1000000
namespace SE
open PySem
theorem pwA : (10 ^ 45 : Nat) < 2 ^ 190 := by decide +kernel
theorem pwB : (10 ^ 45 : Nat) < 2 ^ 1000 := by decide +kernel
abbrev prQ (q : Rat) : D := prI (q.num, (q.den : Int))
theorem rat_nd (q : Rat) : q = (q.num : Rat) / ((q.den : Int) : Rat) := by
  rw [← Rat.divInt_eq_div, Rat.num_divInt_den]
theorem fr_rat {a b : Int} (hb : 0 < b) : frI a b = (((a : Rat) / (b : Rat)).num, ((((a : Rat) / (b : Rat)).den : Nat) : Int)) := by
  rw [← Rat.divInt_eq_div, Rat.num_divInt, Rat.den_divInt, if_neg (by omega), Int.sign_eq_one_of_pos hb, Int.one_mul, Int.gcd_comm b a]
  unfold frI
  congr 1
  rw [Int.natCast_ediv]
  congr 1
  omega
theorem fr_self_q (q : Rat) : frI q.num (q.den : Int) = (q.num, (q.den : Int)) := by
  rw [fr_rat (by have := q.den_pos; omega), ← rat_nd]
theorem cast_ne {b : Int} (h : 0 < b) : (b : Rat) ≠ 0 := fun e => by
  rw [Rat.intCast_eq_zero_iff] at e
  omega
theorem den_ne (q : Rat) : ((q.den : Int) : Rat) ≠ 0 := cast_ne (by have := q.den_pos; omega)
theorem cast_pos {b : Int} (h : 0 < b) : (0 : Rat) < (b : Rat) := Rat.intCast_pos.mpr h
theorem gcdZ_ok {a b : Int} (hb0 : 0 < b) (ha : a.natAbs < 2 ^ 190) (hb : b.natAbs < 2 ^ 190) (p q : Bool) : F_gcd [.va p (.int a), .va q (.int b)] = .ok (.va (.int (Int.gcd a b))) [.va p (.int a), .va q (.int b)] := by
  have hm0 : 0 ≤ a % b := Int.emod_nonneg _ (by omega)
  have hm1 : a % b < b := Int.emod_lt_of_pos _ hb0
  obtain ⟨s', h⟩ := gcd_loop (Int.gcd a b) 399 1 381 b.natAbs (a % b).natAbs (.va false (.int 0)) trivial (by decide) (by
    show Int.gcd b (a % b) = Int.gcd a b
    rw [Int.gcd_comm a b]
    have e : a % b = a - b * (a / b) := Int.emod_def a b
    rw [e, Int.mul_comm b, Int.gcd_sub_mul_right_right]) (enough_of hb (by omega))
  have ea : (((a % b).natAbs : Nat) : Int) = a % b := by omega
  have eb : ((b.natAbs : Nat) : Int) = b := by omega
  rw [ea, eb] at h
  have hm := fMod_i (i := a) (j := b) hb0
  have e4 : rng 0 400 = .int 0 :: rng 1 399 := rng_succ 0 399
  have f1 : F_gcd_l1 [.va false (.int a), .va false (.int b), .va false (.int 0)] = .nx [.va false (.int b), .va false (.int (a % b)), .va false (.int 0)] := by
    simp [F_gcd_l1, show ¬ b = 0 by omega, hm]
  simp [F_gcd]
  rw [e4, forL_c]
  simp [f1, h]
theorem fractionZ_ok {a b : Int} (hb0 : 0 < b) (ha : a.natAbs < 2 ^ 190) (hb : b.natAbs < 2 ^ 190) (p q : Bool) : F_fraction [.va p (.int a), .va q (.int b)] = .ok (.va (prI (frI a b))) [.va p (.int a), .va q (.int b)] := by
  have hb2 : b.natAbs < 2 ^ 1000 := Nat.lt_of_lt_of_le hb (Nat.pow_le_pow_right (by decide) (show 190 ≤ 1000 by decide))
  have hd := gcdZ_ok hb0 ha hb false false
  have h1 := fFdiv_pos (i := a) (gcd_pos (a := a) hb0) (gcd_log hb0 hb2)
  have h2 := fFdiv_pos (i := b) (gcd_pos (a := a) hb0) (gcd_log hb0 hb2)
  simp [F_fraction, hd, h1, h2, lim, frI]
theorem fractionQ {a b : Int} (hb0 : 0 < b) (ha : a.natAbs < 10 ^ 45) (hb : b.natAbs < 10 ^ 45) (p q : Bool) : F_fraction [.va p (.int a), .va q (.int b)] = .ok (.va (prQ ((a : Rat) / b))) [.va p (.int a), .va q (.int b)] := by
  rw [fractionZ_ok hb0 (Nat.lt_trans ha pwA) (Nat.lt_trans hb pwA), fr_rat hb0]
theorem ratioQ {a b : Int} (hb0 : 0 < b) (ha : a.natAbs < 10 ^ 45) (hb : b.natAbs < 10 ^ 45) (p q : Bool) : F_ratio [.va p (.int a), .va q (.int b)] = .ok (.va (prQ ((a : Rat) / b))) [.va p (.int a), .va q (.int b)] := by
  rw [ratio_ok (Nat.lt_trans ha pwB) (Nat.lt_trans hb pwB) hb0, fr_rat hb0]
def F_added : Fn := mkFn 2 2
  (sSeq (sRet (dCall SE.F_ratio (rCons (dOp fAdd (dOp fMul (dOp fIx (dVar 0) (dC (.int 0))) (dOp fIx (dVar 1) (dC (.int 1)))) (dOp fMul (dOp fIx (dVar 1) (dC (.int 0))) (dOp fIx (dVar 0) (dC (.int 1))))) (rCons (dOp fMul (dOp fIx (dVar 0) (dC (.int 1))) (dOp fIx (dVar 1) (dC (.int 1)))) rNil))))
  sNext)
def F_times : Fn := mkFn 2 2
  (sSeq (sRet (dCall SE.F_ratio (rCons (dOp fMul (dOp fIx (dVar 0) (dC (.int 0))) (dOp fIx (dVar 1) (dC (.int 0)))) (rCons (dOp fMul (dOp fIx (dVar 0) (dC (.int 1))) (dOp fIx (dVar 1) (dC (.int 1)))) rNil))))
  sNext)
def F_is_ratio : Fn := mkFn 1 1
  (sSeq (sRet (dAnd (dOp fEq (dB (f1 gLen) (rCons (dVar 0) rNil)) (dC (.int 2))) (dAnd (dOp fGe (dOp fIx (dVar 0) (dC (.int 1))) (dC (.int 1))) (dOp fEq (dCall SE.F_divisor (rCons (dOp fIx (dVar 0) (dC (.int 0))) (rCons (dOp fIx (dVar 0) (dC (.int 1))) rNil))) (dC (.int 1))))))
  sNext)
def F_above : Fn := mkFn 2 2
  (sSeq (sRet (dOp fGt (dOp fMul (dOp fIx (dVar 0) (dC (.int 0))) (dOp fIx (dVar 1) (dC (.int 1)))) (dOp fMul (dOp fIx (dVar 1) (dC (.int 0))) (dOp fIx (dVar 0) (dC (.int 1))))))
  sNext)
def F_lplus : Fn := mkFn 2 2
  (sSeq (sRet (dCall SE.F_fraction (rCons (dOp fAdd (dOp fMul (dOp fIx (dVar 0) (dC (.int 0))) (dOp fIx (dVar 1) (dC (.int 1)))) (dOp fMul (dOp fIx (dVar 1) (dC (.int 0))) (dOp fIx (dVar 0) (dC (.int 1))))) (rCons (dOp fMul (dOp fIx (dVar 0) (dC (.int 1))) (dOp fIx (dVar 1) (dC (.int 1)))) rNil))))
  sNext)
def F_ltimes : Fn := mkFn 2 2
  (sSeq (sRet (dCall SE.F_fraction (rCons (dOp fMul (dOp fIx (dVar 0) (dC (.int 0))) (dOp fIx (dVar 1) (dC (.int 0)))) (rCons (dOp fMul (dOp fIx (dVar 0) (dC (.int 1))) (dOp fIx (dVar 1) (dC (.int 1)))) rNil))))
  sNext)
/-- small enough to be reckoned with -/
def Bq (q : Rat) : Prop := q.num.natAbs < 1000000000000000000 ∧ q.den < 1000000000000000000
theorem mul_abs {a b : Int} {A B : Nat} (h1 : a.natAbs < A) (h2 : b.natAbs < B) : (a * b).natAbs < A * B := by
  rw [Int.natAbs_mul]
  exact Nat.mul_lt_mul'' h1 h2
theorem addQ_eq (p q : Rat) : ((p.num * (q.den : Int) + q.num * (p.den : Int) : Int) : Rat) / ((p.den * (q.den : Int) : Int) : Rat) = p + q := by
  have h1 := den_ne p
  have h2 := den_ne q
  have e1 := rat_nd p
  have e2 := rat_nd q
  rw [Rat.intCast_add, Rat.intCast_mul, Rat.intCast_mul, Rat.intCast_mul]
  generalize (p.num : Rat) = a at *
  generalize (q.num : Rat) = b at *
  generalize ((p.den : Int) : Rat) = c at *
  generalize ((q.den : Int) : Rat) = d at *
  grind
theorem mulQ_eq (p q : Rat) : ((p.num * q.num : Int) : Rat) / ((p.den * (q.den : Int) : Int) : Rat) = p * q := by
  have h1 := den_ne p
  have h2 := den_ne q
  have e1 := rat_nd p
  have e2 := rat_nd q
  rw [Rat.intCast_mul, Rat.intCast_mul]
  generalize (p.num : Rat) = a at *
  generalize (q.num : Rat) = b at *
  generalize ((p.den : Int) : Rat) = c at *
  generalize ((q.den : Int) : Rat) = d at *
  grind
theorem bigs {p q : Rat} (h1 : Bq p) (h2 : Bq q) : (p.num * (q.den : Int)).natAbs < 10 ^ 36 ∧ (q.num * (p.den : Int)).natAbs < 10 ^ 36 ∧ (p.den * (q.den : Int)).natAbs < 10 ^ 36 ∧ (p.num * q.num).natAbs < 10 ^ 36 ∧ 0 < p.den * (q.den : Int) := by
  obtain ⟨a1, a2⟩ := h1
  obtain ⟨b1, b2⟩ := h2
  have e : (1000000000000000000 * 1000000000000000000 : Nat) = 10 ^ 36 := by decide
  have p1 := p.den_pos
  have p2 := q.den_pos
  refine ⟨?_, ?_, ?_, ?_, Int.mul_pos (by omega) (by omega)⟩ <;> rw [← e] <;> refine mul_abs ?_ ?_ <;> omega
theorem added_q {p q : Rat} (h1 : Bq p) (h2 : Bq q) (x y : Bool) : F_added [.va x (prQ p), .va y (prQ q)] = .ok (.va (prQ (p + q))) [.va x (prQ p), .va y (prQ q)] := by
  have m1 := fMul_i (i := p.num) (j := (q.den : Int)) (.inr (by have := h2.2; omega))
  have m2 := fMul_i (i := q.num) (j := (p.den : Int)) (.inr (by have := h1.2; omega))
  have m3 := fMul_i (i := (p.den : Int)) (j := (q.den : Int)) (.inr (by have := h2.2; omega))
  obtain ⟨b1, b2, b3, b4, b5⟩ := bigs h1 h2
  have r := ratioQ (a := p.num * (q.den : Int) + q.num * (p.den : Int)) (b := p.den * (q.den : Int)) b5 (by omega) (by omega) false false
  rw [addQ_eq] at r
  simp [F_added, m1, m2, m3, r]
theorem lplus_q {p q : Rat} (h1 : Bq p) (h2 : Bq q) (x y : Bool) : F_lplus [.va x (prQ p), .va y (prQ q)] = .ok (.va (prQ (p + q))) [.va x (prQ p), .va y (prQ q)] := by
  have m1 := fMul_i (i := p.num) (j := (q.den : Int)) (.inr (by have := h2.2; omega))
  have m2 := fMul_i (i := q.num) (j := (p.den : Int)) (.inr (by have := h1.2; omega))
  have m3 := fMul_i (i := (p.den : Int)) (j := (q.den : Int)) (.inr (by have := h2.2; omega))
  obtain ⟨b1, b2, b3, b4, b5⟩ := bigs h1 h2
  have r := fractionQ (a := p.num * (q.den : Int) + q.num * (p.den : Int)) (b := p.den * (q.den : Int)) b5 (by omega) (by omega) false false
  rw [addQ_eq] at r
  simp [F_lplus, m1, m2, m3, r]
theorem times_q {p q : Rat} (h1 : Bq p) (h2 : Bq q) (x y : Bool) : F_times [.va x (prQ p), .va y (prQ q)] = .ok (.va (prQ (p * q))) [.va x (prQ p), .va y (prQ q)] := by
  have m1 := fMul_i (i := p.num) (j := q.num) (.inr (by have := h2.1; omega))
  have m3 := fMul_i (i := (p.den : Int)) (j := (q.den : Int)) (.inr (by have := h2.2; omega))
  obtain ⟨b1, b2, b3, b4, b5⟩ := bigs h1 h2
  have r := ratioQ (a := p.num * q.num) (b := p.den * (q.den : Int)) b5 (by omega) (by omega) false false
  rw [mulQ_eq] at r
  simp [F_times, m1, m3, r]
theorem ltimes_q {p q : Rat} (h1 : Bq p) (h2 : Bq q) (x y : Bool) : F_ltimes [.va x (prQ p), .va y (prQ q)] = .ok (.va (prQ (p * q))) [.va x (prQ p), .va y (prQ q)] := by
  have m1 := fMul_i (i := p.num) (j := q.num) (.inr (by have := h2.1; omega))
  have m3 := fMul_i (i := (p.den : Int)) (j := (q.den : Int)) (.inr (by have := h2.2; omega))
  obtain ⟨b1, b2, b3, b4, b5⟩ := bigs h1 h2
  have r := fractionQ (a := p.num * q.num) (b := p.den * (q.den : Int)) b5 (by omega) (by omega) false false
  rw [mulQ_eq] at r
  simp [F_ltimes, m1, m3, r]
theorem less_q {p q : Rat} (h1 : Bq p) (h2 : Bq q) (x y : Bool) : F_less [.va x (prQ p), .va y (prQ q)] = .ok (.va (.bool (decide (p < q)))) [.va x (prQ p), .va y (prQ q)] := by
  rw [less_ok (.inl (by have := h1.1; omega)) (.inl (by have := h2.1; omega))]
  congr 4
  exact propext (Rat.lt_iff p q).symm
theorem above_q {p q : Rat} (h1 : Bq p) (h2 : Bq q) (x y : Bool) : F_above [.va x (prQ p), .va y (prQ q)] = .ok (.va (.bool (decide (q < p)))) [.va x (prQ p), .va y (prQ q)] := by
  have m1 := fMul_i (i := p.num) (j := (q.den : Int)) (.inr (by have := h2.2; omega))
  have m2 := fMul_i (i := q.num) (j := (p.den : Int)) (.inr (by have := h1.2; omega))
  simp [F_above, m1, m2]
  exact (Rat.lt_iff q p).symm
theorem above_i {a b c d : Int} (h1 : a.natAbs < 18446744073709551616 ∨ d.natAbs < 18446744073709551616) (h2 : c.natAbs < 18446744073709551616 ∨ b.natAbs < 18446744073709551616) (x y : Bool) : F_above [.va x (prI (a, b)), .va y (prI (c, d))] = .ok (.va (.bool (decide (a * d > c * b)))) [.va x (prI (a, b)), .va y (prI (c, d))] := by
  simp [F_above, fMul_i h1, fMul_i h2]
theorem prQ_eq {p q : Rat} : prQ p = prQ q ↔ p = q := by
  constructor
  · intro h
    simp only [prI, PyData.tuple.injEq, List.cons.injEq, PyData.int.injEq, and_true] at h
    exact Rat.ext h.1 (by omega)
  · rintro rfl; rfl
theorem fEq_q (p q : Rat) : fEq (prQ p) (prQ q) = some (.va (.bool (decide (p = q)))) := by
  rw [fEq_pr]
  congr 3
  apply decide_eq_decide.mpr
  rw [← prQ_eq]
  constructor
  · intro h; unfold prQ; rw [h]
  · intro h
    have := prQ_eq.mp h
    rw [this]
theorem fNe_q (p q : Rat) : fNe (prQ p) (prQ q) = some (.va (.bool (!decide (p = q)))) := by
  rw [fNe_pr]
  congr 4
  apply decide_eq_decide.mpr
  rw [← prQ_eq]
  constructor
  · intro h; unfold prQ; rw [h]
  · intro h
    have := prQ_eq.mp h
    rw [this]
@[simp] theorem prQ_int (k : Int) : prQ (k : Rat) = prI (k, 1) := by
  simp
/-- q is k parts of a T-th, k at most K -/
def Fr (T : Nat) (K : Int) (q : Rat) : Prop := 0 < T ∧ ∃ k : Int, q = (k : Rat) / ((T : Int) : Rat) ∧ -K ≤ k ∧ k ≤ K
theorem Fr.bq {T : Nat} {K : Int} {q : Rat} (h : Fr T K q) (hT : T < 1000000000000000000) (hK : K < 1000000000000000000) : Bq q := by
  obtain ⟨h0, k, e, h1, h2⟩ := h
  have hf := fr_rat (a := k) (b := (T : Int)) (by omega)
  rw [← e] at hf
  have hn : q.num = k / (Int.gcd k (T : Int) : Int) := (congrArg Prod.fst hf).symm
  have hd : ((q.den : Nat) : Int) = (T : Int) / (Int.gcd k (T : Int) : Int) := (congrArg Prod.snd hf).symm
  have d1 : Int.natAbs (k / (Int.gcd k (T : Int) : Int)) ≤ k.natAbs := Int.natAbs_ediv_le_natAbs _ _
  have d2 : Int.natAbs ((T : Int) / (Int.gcd k (T : Int) : Int)) ≤ (T : Int).natAbs := Int.natAbs_ediv_le_natAbs _ _
  unfold Bq
  rw [hn]
  omega
theorem Fr.add {T : Nat} {K L : Int} {p q : Rat} (h1 : Fr T K p) (h2 : Fr T L q) : Fr T (K + L) (p + q) := by
  obtain ⟨h0, k, e, a1, a2⟩ := h1
  obtain ⟨_, l, f, b1, b2⟩ := h2
  refine ⟨h0, k + l, ?_, by omega, by omega⟩
  have hT := cast_ne (b := (T : Int)) (by omega)
  rw [e, f, Rat.intCast_add]
  generalize ((T : Int) : Rat) = t at *
  grind
theorem Fr.mulI {T : Nat} {K L i : Int} {p : Rat} (h1 : Fr T K p) (hi : -L ≤ i ∧ i ≤ L) : Fr T (L * K) ((i : Rat) * p) := by
  obtain ⟨h0, k, e, a1, a2⟩ := h1
  have hT := cast_ne (b := (T : Int)) (by omega)
  have hL : 0 ≤ L := by omega
  have hK : 0 ≤ K := by omega
  have ha : (i * k).natAbs ≤ L.natAbs * K.natAbs := by
    rw [Int.natAbs_mul]
    exact Nat.mul_le_mul (by omega) (by omega)
  have hb : ((L.natAbs * K.natAbs : Nat) : Int) = L * K := by
    rw [Int.natCast_mul, Int.natAbs_of_nonneg hL, Int.natAbs_of_nonneg hK]
  refine ⟨h0, i * k, ?_, by omega, by omega⟩
  rw [e, Rat.intCast_mul]
  generalize ((T : Int) : Rat) = t at *
  grind
theorem Fr.mono {T : Nat} {K L : Int} {p : Rat} (h1 : Fr T K p) (h : K ≤ L) : Fr T L p := by
  obtain ⟨h0, k, e, a1, a2⟩ := h1
  exact ⟨h0, k, e, by omega, by omega⟩
theorem Fr.zero {T : Nat} (h : 0 < T) {K : Int} (hK : 0 ≤ K) : Fr T K 0 := ⟨h, 0, by simp [Rat.div_def], by omega, by omega⟩
theorem Fr.of {T : Nat} {a b K : Int} (h : 0 < T) (hb : 0 < b) (hd : b ∣ (T : Int)) (ha : -K * b ≤ a ∧ a ≤ K * b) : Fr T (K * T) ((a : Rat) / (b : Rat)) := by
  obtain ⟨c, hc⟩ := hd
  have hc0 : 0 < c := by
    rcases Int.lt_or_le 0 c with h | h
    · exact h
    · have := Int.mul_le_mul_of_nonneg_left h (Int.le_of_lt hb)
      rw [Int.mul_zero] at this
      omega
  refine ⟨h, a * c, ?_, ?_, ?_⟩
  · have h1 := cast_ne hb
    have h2 := cast_ne hc0
    rw [hc, Rat.intCast_mul, Rat.intCast_mul]
    generalize (a : Rat) = a at *
    generalize (b : Rat) = b at *
    generalize (c : Rat) = c at *
    grind
  · have := Int.mul_le_mul_of_nonneg_right ha.1 (Int.le_of_lt hc0)
    rw [hc]
    have e : -(K * (b * c)) = -K * b * c := by rw [Int.neg_mul, Int.neg_mul, Int.mul_assoc]
    omega
  · have := Int.mul_le_mul_of_nonneg_right ha.2 (Int.le_of_lt hc0)
    rw [hc]
    have e : K * (b * c) = K * b * c := by rw [Int.mul_assoc]
    omega
theorem Fr.tm {T : Nat} {K : Int} {p : Rat} (h1 : Fr T K p) {m : Nat} (hm : 0 < m) : Fr (T * m) (K * m) p := by
  obtain ⟨h0, k, e, a1, a2⟩ := h1
  have hT := cast_ne (b := (T : Int)) (by omega)
  have hM := cast_ne (b := (m : Int)) (by omega)
  refine ⟨Nat.mul_pos h0 hm, k * m, ?_, ?_, ?_⟩
  · rw [e, Int.natCast_mul, Rat.intCast_mul, Rat.intCast_mul]
    generalize ((T : Int) : Rat) = t at *
    generalize ((m : Int) : Rat) = m at *
    grind
  · have := Int.mul_le_mul_of_nonneg_right a1 (show (0 : Int) ≤ m by omega)
    rw [Int.neg_mul] at this
    exact this
  · exact Int.mul_le_mul_of_nonneg_right a2 (show (0 : Int) ≤ m by omega)
end SE
set_option Elab.async false
set_option linter.all false
set_option maxRecDepth 100000
set_option maxHeartbeats 1000000
namespace SE
open PySem
def okV (v : Int × Int) : Prop := 1 ≤ v.2 ∧ 0 ≤ v.1 ∧ Int.gcd v.1 v.2 = 1
instance (v : Int × Int) : Decidable (okV v) := inferInstanceAs (Decidable (_ ∧ _))
def toQ (v : Int × Int) : Rat := (v.1 : Rat) / (v.2 : Rat)
theorem is_ratio_v {v : Int × Int} (h1 : v.1.natAbs < 10 ^ 45) (h2 : v.2.natAbs < 10 ^ 45) (x : Bool) : F_is_ratio [.va x (prI v)] = .ok (.va (.bool (decide (1 ≤ v.2) && decide (Int.gcd v.1 v.2 = 1)))) [.va x (prI v)] := by
  have e := divisor_ok (a := v.1) (b := v.2) (Nat.lt_trans h1 pwB) (Nat.lt_trans h2 pwB) false false
  have e2 : decide (((Int.gcd v.1 v.2 : Nat) : Int) = 1) = decide (Int.gcd v.1 v.2 = 1) := decide_eq_decide.mpr (by omega)
  by_cases hc : 1 ≤ v.2
  · simp [F_is_ratio, e, hc]
    omega
  · simp [F_is_ratio, e, hc]
theorem fr_selfV {v : Int × Int} (h : okV v) : frI v.1 v.2 = v := by
  unfold frI
  rw [h.2.2]
  simp
theorem fr_selfV_iff {v : Int × Int} (h1 : 1 ≤ v.2) (h2 : 0 ≤ v.1) : frI v.1 v.2 = v ↔ okV v := by
  constructor
  · intro e
    have := fr_gcd (a := v.1) (b := v.2) (by omega)
    rw [e] at this
    exact ⟨h1, h2, this⟩
  · exact fr_selfV
theorem prI_q {v : Int × Int} (h : okV v) : prI v = prQ (toQ v) := by
  have e := fr_rat (a := v.1) (b := v.2) (by have := h.1; omega)
  rw [fr_selfV h] at e
  unfold prQ toQ
  rw [← e]
theorem okV_q {q : Rat} (h : 0 ≤ q) : okV (q.num, (q.den : Int)) ∧ toQ (q.num, (q.den : Int)) = q := by
  refine ⟨⟨?_, Rat.num_nonneg.mpr h, ?_⟩, ?_⟩
  · have := q.den_pos
    show 1 ≤ (q.den : Int)
    omega
  · have := q.reduced
    show Int.gcd q.num (q.den : Int) = 1
    unfold Int.gcd
    rw [Int.natAbs_natCast]
    exact this
  · show (q.num : Rat) / ((q.den : Int) : Rat) = q
    exact (rat_nd q).symm
def okB (v : Int × Int) : Bool := (decide (1 ≤ v.2) && decide (Int.gcd v.1 v.2 = 1)) && decide (0 ≤ v.1)
theorem okB_iff {v : Int × Int} : okB v = true ↔ okV v := by
  unfold okB okV
  simp only [Bool.and_eq_true, decide_eq_true_eq]
  constructor
  · rintro ⟨⟨a, b⟩, c⟩
    exact ⟨a, c, b⟩
  · rintro ⟨a, c, b⟩
    exact ⟨⟨a, b⟩, c⟩
/-- rows whose good ratios are parts of a T-th -/
structure RowOk (T : Nat) (vs : List (Int × Int)) : Prop where
  pos : 0 < T ∧ T ≤ 100000000000000
  len : vs.length ≤ 50
  bd : ∀ v ∈ vs, (1 ≤ v.2 ∧ v.2 ≤ 10000000000000000) ∧ -(2 * v.2) ≤ v.1 ∧ v.1 ≤ 2 * v.2
  dvd : ∀ v ∈ vs, okV v → v.2 ∣ (T : Int)
theorem RowOk.fr {T : Nat} {vs : List (Int × Int)} (h : RowOk T vs) {v : Int × Int} (hv : v ∈ vs) (hk : okV v) : Fr T (2 * (T : Int)) (toQ v) := by
  have hb := h.bd v hv
  exact Fr.of h.pos.1 (by omega) (h.dvd v hv hk) (by omega)
/-- the numbers of a row -/
def qsOf (vs : List (Int × Int)) : List Rat := vs.map toQ
theorem prQs {vs : List (Int × Int)} (h : ∀ v ∈ vs, okV v) : vs.map prI = (qsOf vs).map prQ := by
  unfold qsOf
  rw [List.map_map]
  apply List.map_congr_left
  intro v hv
  exact prI_q (h v hv)
theorem RowOk.frs {T : Nat} {vs : List (Int × Int)} (h : RowOk T vs) (hk : ∀ v ∈ vs, okV v) : ∀ q ∈ qsOf vs, Fr T (2 * (T : Int)) q := by
  intro q hq
  obtain ⟨v, hv, rfl⟩ := List.mem_map.mp hq
  exact h.fr hv (hk v hv)
theorem sumQ_cons (q : Rat) (qs : List Rat) : (q :: qs).sum = q + qs.sum := List.sum_cons
/-- one more in a weighted sum -/
theorem wstep {T : Nat} {K M L c : Int} {q s : Rat} (hq : Fr T K q) (hc : -L ≤ c ∧ c ≤ L) (hs : Fr T M s) (hT : T < 1000000000000000000) (hK : L * K + M < 1000000000000000000) (h0 : 0 ≤ M) (h1 : 1 ≤ L) (h2 : L < 1000000) (h3 : 0 ≤ K) :
    F_times [.va false (prQ q), .va false (prI (c, 1))] = .ok (.va (prQ ((c : Rat) * q))) [.va false (prQ q), .va false (prI (c, 1))] ∧
    F_ltimes [.va false (prQ q), .va false (prI (c, 1))] = .ok (.va (prQ ((c : Rat) * q))) [.va false (prQ q), .va false (prI (c, 1))] ∧
    F_added [.va false (prQ s), .va false (prQ ((c : Rat) * q))] = .ok (.va (prQ (s + (c : Rat) * q))) [.va false (prQ s), .va false (prQ ((c : Rat) * q))] ∧
    F_lplus [.va false (prQ s), .va false (prQ ((c : Rat) * q))] = .ok (.va (prQ (s + (c : Rat) * q))) [.va false (prQ s), .va false (prQ ((c : Rat) * q))] ∧
    Fr T (M + L * K) (s + (c : Rat) * q) := by
  have hm := hq.mulI hc
  have hLK : K ≤ L * K := by
    have := Int.mul_le_mul_of_nonneg_right h1 h3
    rw [Int.one_mul] at this
    exact this
  have b1 : Bq q := hq.bq hT (by omega)
  have b2 : Bq (c : Rat) := by
    unfold Bq
    rw [Rat.num_intCast, Rat.den_intCast]
    omega
  have b3 := hm.bq hT (by omega)
  have b4 := hs.bq hT (by omega)
  have e1 := times_q b1 b2 false false
  have e2 := ltimes_q b1 b2 false false
  rw [Rat.mul_comm q, prQ_int] at e1 e2
  exact ⟨e1, e2, added_q b4 b3 false false, lplus_q b4 b3 false false, hs.add hm⟩
/-- weighted sums -/
def wsum (f : Nat → Int) : Nat → List Rat → Rat
  | _, [] => 0
  | k, q :: qs => ((f k : Int) : Rat) * q + wsum f (k + 1) qs
def F_summed_l1 : DS := (sSeq (sAsg false 1 (dCall SE.F_added (rCons (dVar 1) (rCons (dVar 2) rNil))))
  sNext)
def F_summed : Fn := mkFn 1 3
  (sSeq (sAsg false 1 (dTup (aCons (dC (.int 0)) (aCons (dC (.int 1)) aNil))))
  (sSeq (sFor (iSeq (dVar 0)) (.v 2) F_summed_l1)
  (sSeq (sRet (dVar 1))
  sNext)))
theorem summed_loop {T : Nat} {K : Int} (hT : T < 1000000000000000000) (hK : 0 ≤ K) (s0 : Sl) : ∀ (qs : List Rat) (s : Rat) (M : Int) (s2 : Sl), (∀ q ∈ qs, Fr T K q) → Fr T M s → 0 ≤ M → M + K * qs.length < 1000000000000000000 → Stb s2 →
    ∃ t2, forL (.v 2) F_summed_l1 (qs.map prQ) [s0, .va false (prQ s), s2] = .nx [s0, .va false (prQ (s + qs.sum)), t2]
  | [], s, M, s2, hq, hs, h0, hM, k2 => ⟨s2, by rw [List.sum_nil, Rat.add_zero]; rfl⟩
  | q :: qs, s, M, s2, hq, hs, h0, hM, k2 => by
    have hq1 := hq q List.mem_cons_self
    have e : K * ((q :: qs).length : Int) = K * qs.length + K := by rw [List.length_cons, Int.natCast_add, Int.mul_add]; simp
    have e0 : 0 ≤ K * (qs.length : Int) := Int.mul_nonneg hK (by omega)
    have a := added_q (hs.bq hT (by omega)) (hq1.bq hT (by omega)) false false
    obtain ⟨t2, ih⟩ := summed_loop hT hK s0 qs (s + q) (M + K) (.va false (prQ q)) (fun x hx => hq x (List.mem_cons_of_mem _ hx)) (hs.add hq1) (by omega) (by omega) (stb_va _)
    refine ⟨t2, ?_⟩
    rw [List.map_cons, forL_c, sumQ_cons, ← Rat.add_assoc, ← ih]
    generalize prQ (s + q) = P1 at *
    generalize prQ q = P2 at *
    generalize prQ s = P3 at *
    simp [storeK_stb k2, F_summed_l1, a]
theorem prQ_zero : prQ 0 = .tuple [.int 0, .int 1] := rfl
theorem prQ_one : prQ 1 = .tuple [.int 1, .int 1] := rfl
theorem summed_q {T : Nat} {K : Int} {qs : List Rat} (h0 : 0 < T) (hT : T < 1000000000000000000) (hK : 0 ≤ K) (h : ∀ q ∈ qs, Fr T K q) (hM : K * qs.length < 1000000000000000000) (x l : Bool) :
    F_summed [.va x (.tuple (qs.map prQ))] = .ok (.va (prQ qs.sum)) [.va x (.tuple (qs.map prQ))] ∧
    F_summed [.va x (.list (qs.map prQ))] = .ok (.va (prQ qs.sum)) [.va x (.list (qs.map prQ))] ∧
    F_summed [.ow x l (.list (qs.map prQ))] = .ok (.va (prQ qs.sum)) [.ow x l (.list (qs.map prQ))] := by
  have hl := fun s0 => summed_loop hT hK s0 qs 0 0 .un h (Fr.zero h0 (Int.le_refl 0)) (Int.le_refl 0) (by omega) trivial
  obtain ⟨t1, e1⟩ := hl (.va false (.tuple (qs.map prQ)))
  obtain ⟨t2, e2⟩ := hl (.va false (.list (qs.map prQ)))
  obtain ⟨t3, e3⟩ := hl (.ow true true (.list (qs.map prQ)))
  rw [Rat.zero_add, prQ_zero] at e1 e2 e3
  refine ⟨?_, ?_, ?_⟩
  · generalize qs.map prQ = Q at *
    generalize prQ qs.sum = P at *
    simp [F_summed, lim, e1]
  · generalize qs.map prQ = Q at *
    generalize prQ qs.sum = P at *
    simp [F_summed, lim, e2]
  · generalize qs.map prQ = Q at *
    generalize prQ qs.sum = P at *
    cases l
    · simp [F_summed, lim, forK_some, e3]
    · simp [F_summed, lim, forK_some, e3]
end SE
set_option Elab.async false
set_option linter.all false
set_option maxRecDepth 100000
set_option maxHeartbeats 4000000
namespace K57
open PySem SE
abbrev PP : Program := PySem.Challenge.pw_rivalwise_k57_whole_mixed_days
def topS (i : Nat) : Stmt := PP.main.body.getD i (.Pass ⟨0, 0, 0, 0⟩)
def dfMu (s : Stmt) (xs ys : List Str) : Df := let d := dfOf s; let N := (d.N ++ ys).eraseDups; { d with N := N, mu := xs.filterMap (idx N) }
def d_divisor : Df := dfMu (topS 8) [] []
def d_ratio : Df := dfMu (topS 9) [] []
def d_check_times : Df := dfMu (topS 17) [] []
def d_times : Df := dfMu (topS 12) [] []
def d_shrunk : Df := dfMu (topS 18) [] []
def d_mixed_ratio : Df := dfMu (topS 19) [] []
def d_mixed_days : Df := dfMu (topS 20) [] []
def d_is_ratio : Df := dfMu (topS 10) [] []
def d_less : Df := dfMu (topS 13) [] []
def d_added : Df := dfMu (topS 11) [] []
def d_mean_cost : Df := dfMu (topS 21) [] []
def d_summed : Df := dfMu (topS 22) [] []
def d_are_chances : Df := dfMu (topS 23) [] []
def d_judge_days : Df := dfMu (topS 24) [] []
def d_hard_seasons : Df := dfMu (topS 25) [] []
def d_day_cost : Df := dfMu (topS 27) [] []
def d_judge_seasons : Df := dfMu (topS 26) [] []
def d__law_same : Df := dfMu (topS 29) [] []
def d__law_stream : Df := dfMu (topS 30) [(Str.ofString "numbers")] []
def d__law_next : Df := dfMu (topS 31) [(Str.ofString "state")] []
def d__law_told : Df := dfMu (topS 32) [] [(Str.ofString "k")]
def d__law_gcd : Df := dfMu (topS 33) [] []
def d__law_fraction : Df := dfMu (topS 34) [] []
def d__law_above : Df := dfMu (topS 37) [] []
def d__law_plus : Df := dfMu (topS 35) [] []
def d__law_times : Df := dfMu (topS 36) [] []
def d__law_are_chances : Df := dfMu (topS 38) [] []
def d__law_days_fit : Df := dfMu (topS 39) [] []
def d__law_lengths_fit : Df := dfMu (topS 40) [] []
def d__law_bent : Df := dfMu (topS 41) [(Str.ofString "moved"), (Str.ofString "state")] []
def d_law : Df := dfMu (topS 42) [(Str.ofString "state")] []
def excs : List (Str × List Str) := [((Str.ofString "RivalError"), [(Str.ofString "RivalError"), (Str.ofString "+")]), ((Str.ofString "NotAllowed"), [(Str.ofString "NotAllowed"), (Str.ofString "RivalError"), (Str.ofString "+")]), ((Str.ofString "TooLarge"), [(Str.ofString "TooLarge"), (Str.ofString "RivalError"), (Str.ofString "+")]), ((Str.ofString "Missing"), [(Str.ofString "Missing"), (Str.ofString "RivalError"), (Str.ofString "+")]), ((Str.ofString "BadForm"), [(Str.ofString "BadForm"), (Str.ofString "RivalError")]), ((Str.ofString "Broken"), [(Str.ofString "Broken"), (Str.ofString "RivalError")])]
abbrev gl0 : List (Str × GV) := excT excs
abbrev gl1 : List (Str × GV) := ((Str.ofString "len"), .blt) :: gl0
abbrev gl2 : List (Str × GV) := ((Str.ofString "abs"), .blt) :: gl1
abbrev gl3 : List (Str × GV) := ((Str.ofString "int"), .blt) :: gl2
abbrev gl4 : List (Str × GV) := ((Str.ofString "min"), .blt) :: gl3
abbrev gl5 : List (Str × GV) := ((Str.ofString "max"), .blt) :: gl4
abbrev gl6 : List (Str × GV) := ((Str.ofString "all"), .blt) :: gl5
abbrev gl7 : List (Str × GV) := ((Str.ofString "tuple"), .blt) :: gl6
abbrev gl8 : List (Str × GV) := ((Str.ofString "list"), .blt) :: gl7
abbrev gl9 : List (Str × GV) := ((Str.ofString "repr"), .blt) :: gl8
abbrev gl10 : List (Str × GV) := ((Str.ofString "range"), .blt) :: gl9
abbrev gl11 : List (Str × GV) := ((Str.ofString "enumerate"), .blt) :: gl10
abbrev gl12 : List (Str × GV) := ((Str.ofString "zip"), .blt) :: gl11
abbrev gl13 : List (Str × GV) := ((Str.ofString "isinstance"), .blt) :: gl12
abbrev gl14 : List (Str × GV) := ((Str.ofString "MAX_DAY"), .con (.int 40)) :: gl13
abbrev gl15 : List (Str × GV) := ((Str.ofString "MAX_TIMES"), .con (.int 12)) :: gl14
theorem m_divisor : mirror d_divisor gl15 true = some SE.F_divisor := by kernel_rfl
abbrev gl16 : List (Str × GV) := ((Str.ofString "divisor"), .fn 2 SE.F_divisor true) :: gl15
theorem m_ratio : mirror d_ratio gl16 true = some SE.F_ratio := by kernel_rfl
abbrev gl17 : List (Str × GV) := ((Str.ofString "ratio"), .fn 2 SE.F_ratio true) :: gl16
def F_check_times : Fn := mkFn 1 1
  (sSeq (sIf (SE.tNot (SE.tB (dChain fLe fLe (dC (.int 1)) (dVar 0) (dC (.int 12))))) (sSeq (sRaise (Str.ofString "NotAllowed"))
  sNext) sNext)
  sNext)
theorem m_check_times : mirror d_check_times gl17 true = some F_check_times := by kernel_rfl
abbrev gl18 : List (Str × GV) := ((Str.ofString "check_times"), .fn 1 F_check_times true) :: gl17
theorem m_times : mirror d_times gl18 true = some SE.F_times := by kernel_rfl
abbrev gl19 : List (Str × GV) := ((Str.ofString "times"), .fn 2 SE.F_times true) :: gl18
def F_shrunk_l1 : DS := (sSeq (sAsg false 2 (dCall SE.F_times (rCons (dVar 2) (rCons (dCall SE.F_ratio (rCons (dOp fSub (dVar 0) (dC (.int 1))) (rCons (dVar 0) rNil))) rNil))))
  sNext)
def F_shrunk : Fn := mkFn 2 4
  (sSeq (sAsg false 2 (dTup (aCons (dC (.int 1)) (aCons (dC (.int 1)) aNil))))
  (sSeq (sFor (SE.iRng1 (dVar 1)) (.v 3) F_shrunk_l1)
  (sSeq (sRet (dVar 2))
  sNext)))
theorem m_shrunk : mirror d_shrunk gl19 true = some F_shrunk := by kernel_rfl
abbrev gl20 : List (Str × GV) := ((Str.ofString "shrunk"), .fn 2 F_shrunk true) :: gl19
def F_mixed_ratio : Fn := mkFn 1 2
  (sSeq (sDrop (dCall F_check_times (rCons (dVar 0) rNil)))
  (sSeq (sAsg false 1 (dCall F_shrunk (rCons (dVar 0) (rCons (dVar 0) rNil))))
  (sSeq (sRet (dCall SE.F_ratio (rCons (dOp fIx (dVar 1) (dC (.int 1))) (rCons (dOp fSub (dOp fIx (dVar 1) (dC (.int 1))) (dOp fIx (dVar 1) (dC (.int 0)))) rNil))))
  sNext)))
theorem m_mixed_ratio : mirror d_mixed_ratio gl20 true = some F_mixed_ratio := by kernel_rfl
abbrev gl21 : List (Str × GV) := ((Str.ofString "mixed_ratio"), .fn 1 F_mixed_ratio true) :: gl20
def F_mixed_days_c1 : DE := (dCall SE.F_times (rCons (dCall SE.F_times (rCons (dVar 1) (rCons (dTup (aCons (dC (.int 1)) (aCons (dVar 0) aNil))) rNil))) (rCons (dCall F_shrunk (rCons (dVar 0) (rCons (dOp fSub (dVar 0) (dVar 3)) rNil))) rNil)))
def F_mixed_days : Fn := mkFn 1 4
  (sSeq (sAsg false 1 (dCall F_mixed_ratio (rCons (dVar 0) rNil)))
  (sSeq (sRet (dB (f1 gTuple) (rCons (dLc [2, 3] (SE.iRng2 (dC (.int 1)) (dOp fAdd (dVar 0) (dC (.int 1)))) (.v 3) tYes F_mixed_days_c1) rNil)))
  sNext))
theorem m_mixed_days : mirror d_mixed_days gl21 true = some F_mixed_days := by kernel_rfl
abbrev gl22 : List (Str × GV) := ((Str.ofString "mixed_days"), .fn 1 F_mixed_days true) :: gl21
theorem m_is_ratio : mirror d_is_ratio gl22 true = some SE.F_is_ratio := by kernel_rfl
abbrev gl23 : List (Str × GV) := ((Str.ofString "is_ratio"), .fn 1 SE.F_is_ratio true) :: gl22
theorem m_less : mirror d_less gl23 true = some SE.F_less := by kernel_rfl
abbrev gl24 : List (Str × GV) := ((Str.ofString "less"), .fn 2 SE.F_less true) :: gl23
theorem m_added : mirror d_added gl24 true = some SE.F_added := by kernel_rfl
abbrev gl25 : List (Str × GV) := ((Str.ofString "added"), .fn 2 SE.F_added true) :: gl24
def F_mean_cost_l1 : DS := (sSeq (sAsg false 6 (dIf (SE.tB (dOp fLe (dVar 2) (dVar 4))) (dVar 2) (dOp fAdd (dVar 4) (dVar 0))))
  (sSeq (sAsg false 3 (dCall SE.F_added (rCons (dVar 3) (rCons (dCall SE.F_times (rCons (dVar 5) (rCons (dTup (aCons (dVar 6) (aCons (dC (.int 1)) aNil))) rNil))) rNil))))
  sNext))
def F_mean_cost : Fn := mkFn 3 7
  (sSeq (sAsg false 3 (dTup (aCons (dC (.int 0)) (aCons (dC (.int 1)) aNil))))
  (sSeq (sFor (iEnumE (dVar 1)) (.t [(.v 4), (.v 5)]) F_mean_cost_l1)
  (sSeq (sRet (dVar 3))
  sNext)))
theorem m_mean_cost : mirror d_mean_cost gl25 true = some F_mean_cost := by kernel_rfl
abbrev gl26 : List (Str × GV) := ((Str.ofString "mean_cost"), .fn 3 F_mean_cost true) :: gl25
theorem m_summed : mirror d_summed gl26 true = some SE.F_summed := by kernel_rfl
abbrev gl27 : List (Str × GV) := ((Str.ofString "summed"), .fn 1 SE.F_summed true) :: gl26
def F_are_chances_c1 : DE := (dAnd (dCall SE.F_is_ratio (rCons (dVar 2) rNil)) (dOp fGe (dOp fIx (dVar 2) (dC (.int 0))) (dC (.int 0))))
def F_are_chances : Fn := mkFn 1 3
  (sSeq (sRet (dAnd (dB (f1 gAll) (rCons (dLc [1, 2] (iSeq (dVar 0)) (.v 2) tYes F_are_chances_c1) rNil)) (dOp fEq (dCall SE.F_summed (rCons (dVar 0) rNil)) (dTup (aCons (dC (.int 1)) (aCons (dC (.int 1)) aNil))))))
  sNext)
theorem m_are_chances : mirror d_are_chances gl27 true = some F_are_chances := by kernel_rfl
abbrev gl28 : List (Str × GV) := ((Str.ofString "are_chances"), .fn 1 F_are_chances true) :: gl27
def F_judge_days_l1 : DS := (sSeq (sIf (SE.tVal (dCall SE.F_less (rCons (dCall SE.F_times (rCons (dVar 1) (rCons (dTup (aCons (dB fMin (rCons (dVar 4) (rCons (dVar 0) rNil))) (aCons (dC (.int 1)) aNil))) rNil))) (rCons (dCall F_mean_cost (rCons (dVar 0) (rCons (dVar 2) (rCons (dVar 4) rNil)))) rNil)))) (sSeq (sRet (dC (.bool false)))
  sNext) sNext)
  sNext)
def F_judge_days : Fn := mkFn 3 5
  (sSeq (sDrop (dCall F_check_times (rCons (dVar 0) rNil)))
  (sSeq (sIf (SE.tNot (SE.tVal (dCall SE.F_is_ratio (rCons (dVar 1) rNil)))) (sSeq (sRaise (Str.ofString "NotAllowed"))
  sNext) sNext)
  (sSeq (sIf (SE.tOr (SE.tNot (SE.tB (dChain fLe fLe (dC (.int 1)) (dB (f1 gLen) (rCons (dVar 2) rNil)) (dC (.int 40))))) (SE.tNot (SE.tVal (dCall F_are_chances (rCons (dVar 2) rNil))))) (sSeq (sRet (dC (.bool false)))
  sNext) sNext)
  (sSeq (sAsg false 3 (dOp fAdd (dB fMax (rCons (dVar 0) (rCons (dB (f1 gLen) (rCons (dVar 2) rNil)) rNil))) (dC (.int 1))))
  (sSeq (sFor (SE.iRng2 (dC (.int 1)) (dOp fAdd (dVar 3) (dC (.int 1)))) (.v 4) F_judge_days_l1)
  (sSeq (sRet (dC (.bool true)))
  sNext))))))
theorem m_judge_days : mirror d_judge_days gl28 true = some F_judge_days := by kernel_rfl
abbrev gl29 : List (Str × GV) := ((Str.ofString "judge_days"), .fn 3 F_judge_days true) :: gl28
def F_hard_seasons_c1 : DE := (dCall F_shrunk (rCons (dVar 0) (rCons (dOp fSub (dVar 4) (dC (.int 1))) rNil)))
def F_hard_seasons_c2 : DE := (dCall SE.F_added (rCons (dVar 5) (rCons (dTup (aCons (dUn fNeg (dOp fIx (dVar 6) (dC (.int 0)))) (aCons (dOp fIx (dVar 6) (dC (.int 1))) aNil))) rNil)))
def F_hard_seasons : Fn := mkFn 1 7
  (sSeq (sDrop (dCall F_check_times (rCons (dVar 0) rNil)))
  (sSeq (sAsg false 1 (dLc [3, 4] (SE.iRng2 (dC (.int 1)) (dOp fAdd (dVar 0) (dC (.int 1)))) (.v 4) tYes F_hard_seasons_c1))
  (sSeq (sAsg false 2 (dLc [3, 5, 6] (iZipE (aCons (dVar 1) (aCons (dSl fSl (dVar 1) (oSome (dC (.int 1))) oNone) aNil))) (.t [(.v 5), (.v 6)]) tYes F_hard_seasons_c2))
  (sSeq (sRet (dB (f1 gTuple) (rCons (dLst (aStar (dVar 2) (aCons (dOp fIx (dVar 1) (dUn fNeg (dC (.int 1)))) aNil))) rNil)))
  sNext))))
theorem m_hard_seasons : mirror d_hard_seasons gl29 true = some F_hard_seasons := by kernel_rfl
abbrev gl30 : List (Str × GV) := ((Str.ofString "hard_seasons"), .fn 1 F_hard_seasons true) :: gl29
def F_day_cost_l1 : DS := (sSeq (sAsg false 6 (dIf (SE.tAnd (SE.tB (dOp fLt (dOp fAdd (dVar 4) (dC (.int 1))) (dVar 2))) (SE.tB (dOp fLt (dOp fAdd (dVar 4) (dC (.int 1))) (dB (f1 gLen) (rCons (dVar 1) rNil))))) (dOp fAdd (dVar 4) (dC (.int 1))) (dOp fAdd (dOp fSub (dVar 2) (dC (.int 1))) (dVar 0))))
  (sSeq (sAsg false 3 (dCall SE.F_added (rCons (dVar 3) (rCons (dCall SE.F_times (rCons (dVar 5) (rCons (dTup (aCons (dVar 6) (aCons (dC (.int 1)) aNil))) rNil))) rNil))))
  sNext))
def F_day_cost : Fn := mkFn 3 7
  (sSeq (sAsg false 3 (dTup (aCons (dC (.int 0)) (aCons (dC (.int 1)) aNil))))
  (sSeq (sFor (iEnumE (dVar 1)) (.t [(.v 4), (.v 5)]) F_day_cost_l1)
  (sSeq (sRet (dVar 3))
  sNext)))
theorem m_day_cost : mirror d_day_cost gl30 true = some F_day_cost := by kernel_rfl
abbrev gl31 : List (Str × GV) := ((Str.ofString "day_cost"), .fn 3 F_day_cost true) :: gl30
def F_judge_seasons_l1 : DS := (sSeq (sAsg false 3 (dCall SE.F_added (rCons (dVar 3) (rCons (dCall SE.F_times (rCons (dVar 5) (rCons (dTup (aCons (dOp fAdd (dVar 4) (dC (.int 1))) (aCons (dC (.int 1)) aNil))) rNil))) rNil))))
  sNext)
def F_judge_seasons_c2 : DE := (dNot (dCall SE.F_less (rCons (dCall F_day_cost (rCons (dVar 0) (rCons (dVar 2) (rCons (dVar 8) rNil)))) (rCons (dVar 6) rNil))))
def F_judge_seasons : Fn := mkFn 3 9
  (sSeq (sDrop (dCall F_check_times (rCons (dVar 0) rNil)))
  (sSeq (sIf (SE.tNot (SE.tVal (dCall SE.F_is_ratio (rCons (dVar 1) rNil)))) (sSeq (sRaise (Str.ofString "NotAllowed"))
  sNext) sNext)
  (sSeq (sIf (SE.tOr (SE.tB (dOp fNe (dB (f1 gLen) (rCons (dVar 2) rNil)) (dVar 0))) (SE.tNot (SE.tVal (dCall F_are_chances (rCons (dVar 2) rNil))))) (sSeq (sRet (dC (.bool false)))
  sNext) sNext)
  (sSeq (sAsg false 3 (dTup (aCons (dC (.int 0)) (aCons (dC (.int 1)) aNil))))
  (sSeq (sFor (iEnumE (dVar 2)) (.t [(.v 4), (.v 5)]) F_judge_seasons_l1)
  (sSeq (sAsg false 6 (dCall SE.F_times (rCons (dVar 1) (rCons (dVar 3) rNil))))
  (sSeq (sRet (dB (f1 gAll) (rCons (dLc [7, 8] (SE.iRng2 (dC (.int 1)) (dOp fAdd (dVar 0) (dC (.int 2)))) (.v 8) tYes F_judge_seasons_c2) rNil)))
  sNext)))))))
theorem m_judge_seasons : mirror d_judge_seasons gl31 true = some F_judge_seasons := by kernel_rfl
abbrev gl32 : List (Str × GV) := ((Str.ofString "judge_seasons"), .fn 3 F_judge_seasons true) :: gl31
theorem m__law_same : mirror d__law_same gl32 true = some SE.F_same := by kernel_rfl
abbrev gl33 : List (Str × GV) := ((Str.ofString "_law_same"), .fn 2 SE.F_same true) :: gl32
theorem m__law_stream : mirror d__law_stream gl33 true = some SE.F_stream := by kernel_rfl
abbrev gl34 : List (Str × GV) := ((Str.ofString "_law_stream"), .fn 1 SE.F_stream true) :: gl33
theorem m__law_next : mirror d__law_next gl34 true = some SE.F_next := by kernel_rfl
abbrev gl35 : List (Str × GV) := ((Str.ofString "_law_next"), .fn 2 SE.F_next true) :: gl34
def tk : List Str → Option Str := ((toldR d__law_told gl35).getD (Str.empty, fun _ => none)).2
theorem m_told : toldR d__law_told gl35 = some ((Str.ofString "told"), tk) := by kernel_rfl
abbrev KF : Str → Option Str := kindF gl35 tk
theorem kf_refused : KF (Str.ofString "NotAllowed") = some (Str.ofString "refused") := by kernel_rfl
theorem kf_large : KF (Str.ofString "TooLarge") = some (Str.ofString "large") := by kernel_rfl
theorem kf_missing : KF (Str.ofString "Missing") = some (Str.ofString "missing") := by kernel_rfl
theorem kf_form : KF (Str.ofString "BadForm") = some (Str.ofString "form") := by kernel_rfl
theorem kf_broken : KF (Str.ofString "Broken") = some (Str.ofString "broken") := by kernel_rfl
abbrev gl36 : List (Str × GV) := ((Str.ofString "_law_told"), .told (Str.ofString "told") KF) :: gl35
theorem m__law_gcd : mirror d__law_gcd gl36 true = some SE.F_gcd := by kernel_rfl
abbrev gl37 : List (Str × GV) := ((Str.ofString "_law_gcd"), .fn 2 SE.F_gcd true) :: gl36
theorem m__law_fraction : mirror d__law_fraction gl37 true = some SE.F_fraction := by kernel_rfl
abbrev gl38 : List (Str × GV) := ((Str.ofString "_law_fraction"), .fn 2 SE.F_fraction true) :: gl37
theorem m__law_above : mirror d__law_above gl38 true = some SE.F_above := by kernel_rfl
abbrev gl39 : List (Str × GV) := ((Str.ofString "_law_above"), .fn 2 SE.F_above true) :: gl38
theorem m__law_plus : mirror d__law_plus gl39 true = some SE.F_lplus := by kernel_rfl
abbrev gl40 : List (Str × GV) := ((Str.ofString "_law_plus"), .fn 2 SE.F_lplus true) :: gl39
theorem m__law_times : mirror d__law_times gl40 true = some SE.F_ltimes := by kernel_rfl
abbrev gl41 : List (Str × GV) := ((Str.ofString "_law_times"), .fn 2 SE.F_ltimes true) :: gl40
def F__law_are_chances_l1 : DS := (sSeq (sIf (SE.tOr (SE.tB (dOp fLt (dVar 3) (dC (.int 1)))) (SE.tOr (SE.tB (dOp fLt (dVar 2) (dC (.int 0)))) (SE.tB (dOp fNe (dCall SE.F_fraction (rCons (dVar 2) (rCons (dVar 3) rNil))) (dTup (aCons (dVar 2) (aCons (dVar 3) aNil))))))) (sSeq (sRet (dC (.bool false)))
  sNext) sNext)
  (sSeq (sAsg false 1 (dCall SE.F_lplus (rCons (dVar 1) (rCons (dTup (aCons (dVar 2) (aCons (dVar 3) aNil))) rNil))))
  sNext))
def F__law_are_chances : Fn := mkFn 1 4
  (sSeq (sAsg false 1 (dTup (aCons (dC (.int 0)) (aCons (dC (.int 1)) aNil))))
  (sSeq (sFor (iSeq (dVar 0)) (.t [(.v 2), (.v 3)]) F__law_are_chances_l1)
  (sSeq (sRet (dOp fEq (dVar 1) (dTup (aCons (dC (.int 1)) (aCons (dC (.int 1)) aNil)))))
  sNext)))
theorem m__law_are_chances : mirror d__law_are_chances gl41 true = some F__law_are_chances := by kernel_rfl
abbrev gl42 : List (Str × GV) := ((Str.ofString "_law_are_chances"), .fn 1 F__law_are_chances true) :: gl41
def F__law_days_fit_l1 : DS := (sSeq (sAsg false 4 (dCall SE.F_lplus (rCons (dVar 4) (rCons (dCall SE.F_ltimes (rCons (dOp fIx (dVar 2) (dVar 5)) (rCons (dTup (aCons (dOp fIx (dLst (aCons (dOp fAdd (dVar 5) (dVar 0)) (aCons (dVar 3) aNil))) (dB (f1 gInt) (rCons (dOp fLe (dVar 3) (dVar 5)) rNil))) (aCons (dC (.int 1)) aNil))) rNil))) rNil))))
  sNext)
def F__law_days_fit_l2 : DS := (sSeq (sAsg false 4 (dTup (aCons (dC (.int 0)) (aCons (dC (.int 1)) aNil))))
  (sSeq (sFor (SE.iRng1 (dB (f1 gLen) (rCons (dVar 2) rNil))) (.v 5) F__law_days_fit_l1)
  (sSeq (sIf (SE.tVal (dCall SE.F_above (rCons (dVar 4) (rCons (dTup (aCons (dOp fMul (dOp fIx (dVar 1) (dC (.int 0))) (dB fMin (rCons (dVar 3) (rCons (dVar 0) rNil)))) (aCons (dOp fIx (dVar 1) (dC (.int 1))) aNil))) rNil)))) (sSeq (sRet (dC (.bool false)))
  sNext) sNext)
  sNext)))
def F__law_days_fit : Fn := mkFn 3 6
  (sSeq (sIf (SE.tOr (SE.tNot (SE.tB (dChain fLe fLe (dC (.int 1)) (dB (f1 gLen) (rCons (dVar 2) rNil)) (dC (.int 40))))) (SE.tNot (SE.tVal (dCall F__law_are_chances (rCons (dVar 2) rNil))))) (sSeq (sRet (dC (.bool false)))
  sNext) sNext)
  (sSeq (sFor (SE.iRng2 (dC (.int 1)) (dOp fAdd (dB fMax (rCons (dVar 0) (rCons (dB (f1 gLen) (rCons (dVar 2) rNil)) rNil))) (dC (.int 2)))) (.v 3) F__law_days_fit_l2)
  (sSeq (sRet (dC (.bool true)))
  sNext)))
theorem m__law_days_fit : mirror d__law_days_fit gl42 true = some F__law_days_fit := by kernel_rfl
abbrev gl43 : List (Str × GV) := ((Str.ofString "_law_days_fit"), .fn 3 F__law_days_fit true) :: gl42
def F__law_lengths_fit_l1 : DS := (sSeq (sAsg false 3 (dCall SE.F_lplus (rCons (dVar 3) (rCons (dCall SE.F_ltimes (rCons (dOp fIx (dVar 2) (dVar 4)) (rCons (dTup (aCons (dOp fAdd (dVar 4) (dC (.int 1))) (aCons (dC (.int 1)) aNil))) rNil))) rNil))))
  sNext)
def F__law_lengths_fit_l2 : DS := (sSeq (sAsg false 7 (dOp fAdd (dOp fSub (dVar 5) (dC (.int 1))) (dVar 0)))
  (sSeq (sIf (SE.tAnd (SE.tB (dOp fLt (dOp fAdd (dVar 4) (dC (.int 1))) (dVar 5))) (SE.tB (dOp fLt (dVar 4) (dOp fSub (dVar 0) (dC (.int 1)))))) (sSeq (sAsg false 7 (dOp fAdd (dVar 4) (dC (.int 1))))
  sNext) sNext)
  (sSeq (sAsg false 6 (dCall SE.F_lplus (rCons (dVar 6) (rCons (dCall SE.F_ltimes (rCons (dOp fIx (dVar 2) (dVar 4)) (rCons (dTup (aCons (dVar 7) (aCons (dC (.int 1)) aNil))) rNil))) rNil))))
  sNext)))
def F__law_lengths_fit_l3 : DS := (sSeq (sAsg false 6 (dTup (aCons (dC (.int 0)) (aCons (dC (.int 1)) aNil))))
  (sSeq (sFor (SE.iRng1 (dVar 0)) (.v 4) F__law_lengths_fit_l2)
  (sSeq (sIf (SE.tVal (dCall SE.F_above (rCons (dCall SE.F_ltimes (rCons (dVar 3) (rCons (dVar 1) rNil))) (rCons (dVar 6) rNil)))) (sSeq (sRet (dC (.bool false)))
  sNext) sNext)
  sNext)))
def F__law_lengths_fit : Fn := mkFn 3 8
  (sSeq (sIf (SE.tOr (SE.tB (dOp fNe (dB (f1 gLen) (rCons (dVar 2) rNil)) (dVar 0))) (SE.tNot (SE.tVal (dCall F__law_are_chances (rCons (dVar 2) rNil))))) (sSeq (sRet (dC (.bool false)))
  sNext) sNext)
  (sSeq (sAsg false 3 (dTup (aCons (dC (.int 0)) (aCons (dC (.int 1)) aNil))))
  (sSeq (sFor (SE.iRng1 (dVar 0)) (.v 4) F__law_lengths_fit_l1)
  (sSeq (sFor (SE.iRng2 (dC (.int 1)) (dOp fAdd (dVar 0) (dC (.int 2)))) (.v 5) F__law_lengths_fit_l3)
  (sSeq (sRet (dC (.bool true)))
  sNext)))))
theorem m__law_lengths_fit : mirror d__law_lengths_fit gl43 true = some F__law_lengths_fit := by kernel_rfl
abbrev gl44 : List (Str × GV) := ((Str.ofString "_law_lengths_fit"), .fn 3 F__law_lengths_fit true) :: gl43
def F__law_bent_c1 : DE := (dTup (aCons (dOp fMul (dC (.int 2)) (dVar 8)) (aCons (dOp fMul (dC (.int 2)) (dVar 9)) aNil)))
def F__law_bent : Fn := mkFn 2 10
  (sSeq (sAsg false 2 (dCall SE.F_next (rCons (dVar 0) (rCons (dB (f1 gLen) (rCons (dVar 1) rNil)) rNil))))
  (sSeq (sAsg false 3 (dCall SE.F_ltimes (rCons (dOp fIx (dVar 1) (dVar 2)) (rCons (dOp fIx (dLst (aCons (dTup (aCons (dC (.int 1)) (aCons (dC (.int 2)) aNil))) (aCons (dTup (aCons (dC (.int 1)) (aCons (dC (.int 10)) aNil))) (aCons (dTup (aCons (dC (.int 1)) (aCons (dC (.int 1)) aNil))) aNil)))) (dCall SE.F_next (rCons (dVar 0) (rCons (dC (.int 3)) rNil)))) rNil))))
  (sSeq (sAsg false 4 (dCall SE.F_lplus (rCons (dOp fIx (dVar 1) (dVar 2)) (rCons (dTup (aCons (dOp fSub (dC (.int 0)) (dOp fIx (dVar 3) (dC (.int 0)))) (aCons (dOp fIx (dVar 3) (dC (.int 1))) aNil))) rNil))))
  (sSeq (sAsg false 5 (dCall SE.F_next (rCons (dVar 0) (rCons (dB (f1 gLen) (rCons (dVar 1) rNil)) rNil))))
  (sSeq (sAsg true 6 (dB (f1 gList) (rCons (dVar 1) rNil)))
  (sSeq (sSub 6 fSetL (dVar 2) (dVar 4))
  (sSeq (sSub 6 fSetL (dVar 5) (dCall SE.F_lplus (rCons (dOp fIx (dVar 6) (dVar 5)) (rCons (dVar 3) rNil))))
  (sSeq (sRet (dOp fIx (dLst (aCons (dB (f1 gTuple) (rCons (dVar 6) rNil)) (aCons (dSl fSl (dVar 1) (oSome (dC (.int 1))) oNone) (aCons (dOp fAdd (dVar 1) (dTup (aCons (dTup (aCons (dC (.int 0)) (aCons (dC (.int 1)) aNil))) aNil))) (aCons (dUn fRev (dVar 1)) (aCons (dB (f1 gTuple) (rCons (dLc [7, 8, 9] (iSeq (dVar 1)) (.t [(.v 8), (.v 9)]) tYes F__law_bent_c1) rNil)) (aCons (dOp fAdd (dOp fAdd (dSl fSl (dVar 1) oNone (oSome (dVar 2))) (dTup (aCons (dTup (aCons (dUn fNeg (dC (.int 1))) (aCons (dC (.int 3)) aNil))) aNil))) (dSl fSl (dVar 1) (oSome (dOp fAdd (dVar 2) (dC (.int 1)))) oNone)) aNil))))))) (dCall SE.F_next (rCons (dVar 0) (rCons (dC (.int 6)) rNil)))))
  sNext))))))))
theorem m__law_bent : mirror d__law_bent gl44 true = some F__law_bent := by kernel_rfl
abbrev gl45 : List (Str × GV) := ((Str.ofString "_law_bent"), .fn 2 F__law_bent true) :: gl44
def F_law_l1 : DS := (sSeq (sAsg false 4 (dOp fMul (dVar 4) (dOp fSub (dVar 3) (dC (.int 1)))))
  (sSeq (sAsg false 5 (dOp fMul (dVar 5) (dVar 3)))
  sNext))
def F_law_c2 : DE := (dCall F__law_bent (rCons (dVar 1) (rCons (dVar 8) rNil)))
def F_law_c3 : DE := (dCall F__law_bent (rCons (dVar 1) (rCons (dVar 9) rNil)))
def F_law_c4 : DE := (dCall F__law_days_fit (rCons (dVar 3) (rCons (dVar 11) (rCons (dVar 16) rNil))))
def F_law_c5 : DE := (dCall F__law_lengths_fit (rCons (dVar 3) (rCons (dVar 11) (rCons (dVar 16) rNil))))
def F_law_c6 : DE := (dCall F_judge_days (rCons (dVar 3) (rCons (dVar 11) (rCons (dVar 16) rNil))))
def F_law_c7 : DE := (dCall F_judge_seasons (rCons (dVar 3) (rCons (dVar 11) (rCons (dVar 16) rNil))))
def F_law_l8 : DS := (sSeq (sAsg false 12 (dLc [15, 16] (iSeq (dVar 10)) (.v 16) tYes F_law_c4))
  (sSeq (sAsg false 13 (dLc [15, 16] (iSeq (dVar 10)) (.v 16) tYes F_law_c5))
  (sSeq (sIf (SE.tNot (SE.tVal (dCall SE.F_same (rCons (dLc [15, 16] (iSeq (dVar 10)) (.v 16) tYes F_law_c6) (rCons (dVar 12) rNil))))) (sSeq (sRet (dC (.bool false)))
  sNext) sNext)
  (sSeq (sIf (SE.tNot (SE.tVal (dCall SE.F_same (rCons (dLc [15, 16] (iSeq (dVar 10)) (.v 16) tYes F_law_c7) (rCons (dVar 13) rNil))))) (sSeq (sRet (dC (.bool false)))
  sNext) sNext)
  (sSeq (sIf (SE.tOr (SE.tAnd (SE.tVal (dCall SE.F_above (rCons (dVar 7) (rCons (dVar 11) rNil)))) (SE.tB (dOp fIn (dC (.bool true)) (dVar 12)))) (SE.tAnd (SE.tVal (dCall SE.F_above (rCons (dVar 11) (rCons (dVar 7) rNil)))) (SE.tB (dOp fIn (dC (.bool true)) (dVar 13))))) (sSeq (sRet (dC (.bool false)))
  sNext) sNext)
  sNext)))))
def F_law_l9 : DS := (sSeq (sAsg false 3 (dOp fAdd (dC (.int 1)) (dCall SE.F_next (rCons (dVar 1) (rCons (dC (.int 12)) rNil)))))
  (sSeq (sAsg false 4 (dC (.int 1)))
  (sSeq (sAsg false 5 (dC (.int 1)))
  (sSeq (sFor (SE.iRng1 (dVar 3)) (.v 6) F_law_l1)
  (sSeq (sAsg false 7 (dCall F_mixed_ratio (rCons (dVar 3) rNil)))
  (sSeq (sIf (SE.tNot (SE.tVal (dCall SE.F_same (rCons (dVar 7) (rCons (dCall SE.F_fraction (rCons (dVar 5) (rCons (dOp fSub (dVar 5) (dVar 4)) rNil))) rNil))))) (sSeq (sRet (dC (.bool false)))
  sNext) sNext)
  (sSeq (sAsg false 8 (dCall F_mixed_days (rCons (dVar 3) rNil)))
  (sSeq (sAsg false 9 (dCall F_hard_seasons (rCons (dVar 3) rNil)))
  (sSeq (sIf (SE.tOr (SE.tNot (SE.tVal (dCall F__law_days_fit (rCons (dVar 3) (rCons (dVar 7) (rCons (dVar 8) rNil)))))) (SE.tOr (SE.tNot (SE.tVal (dCall F__law_lengths_fit (rCons (dVar 3) (rCons (dVar 7) (rCons (dVar 9) rNil)))))) (SE.tB (dOp fNe (dB (f1 gLen) (rCons (dVar 8) rNil)) (dVar 3))))) (sSeq (sRet (dC (.bool false)))
  sNext) sNext)
  (sSeq (sAsg false 10 (dOp fAdd (dOp fAdd (dLst (aCons (dVar 8) (aCons (dVar 9) (aCons (dTup (aCons (dTup (aCons (dC (.int 1)) (aCons (dC (.int 1)) aNil))) aNil)) (aCons (dOp fAdd (dOp fMul (dTup (aCons (dTup (aCons (dC (.int 0)) (aCons (dC (.int 1)) aNil))) aNil)) (dOp fSub (dVar 3) (dC (.int 1)))) (dTup (aCons (dTup (aCons (dC (.int 1)) (aCons (dC (.int 1)) aNil))) aNil))) aNil))))) (dLc [15, 6] (SE.iRng1 (dC (.int 4))) (.v 6) tYes F_law_c2)) (dLc [15, 6] (SE.iRng1 (dC (.int 4))) (.v 6) tYes F_law_c3)))
  (sSeq (sFor (iSeq (dLst (aCons (dVar 7) (aCons (dTup (aCons (dC (.int 2)) (aCons (dC (.int 1)) aNil))) (aCons (dCall SE.F_fraction (rCons (dOp fAdd (dOp fMul (dOp fIx (dVar 7) (dC (.int 0))) (dC (.int 20))) (dC (.int 1))) (rCons (dOp fMul (dOp fIx (dVar 7) (dC (.int 1))) (dC (.int 20))) rNil))) (aCons (dCall SE.F_fraction (rCons (dOp fSub (dOp fMul (dOp fIx (dVar 7) (dC (.int 0))) (dC (.int 20))) (dC (.int 1))) (rCons (dOp fMul (dOp fIx (dVar 7) (dC (.int 1))) (dC (.int 20))) rNil))) aNil)))))) (.v 11) F_law_l8)
  sNext)))))))))))
def F_law : Fn := mkFn 1 17
  (sSeq (sAsg true 1 (dLst (aCons (dCall SE.F_stream (rCons (dVar 0) rNil)) (aCons (dC (.int 0)) aNil))))
  (sSeq (sFor (SE.iRng1 (dC (.int 3))) (.v 2) F_law_l9)
  (sSeq (sAsg false 14 (dLst (aCons (dTold (Str.ofString "told") KF (dCall F_mixed_ratio (rCons (dC (.int 0)) rNil))) (aCons (dTold (Str.ofString "told") KF (dCall F_mixed_days (rCons (dC (.int 13)) rNil))) (aCons (dTold (Str.ofString "told") KF (dCall F_hard_seasons (rCons (dUn fNeg (dC (.int 1))) rNil))) (aCons (dTold (Str.ofString "told") KF (dCall F_judge_days (rCons (dC (.int 2)) (rCons (dTup (aCons (dC (.int 2)) (aCons (dC (.int 4)) aNil))) (rCons (dTup (aCons (dTup (aCons (dC (.int 1)) (aCons (dC (.int 1)) aNil))) aNil)) rNil))))) (aCons (dTold (Str.ofString "told") KF (dCall F_judge_seasons (rCons (dC (.int 0)) (rCons (dTup (aCons (dC (.int 1)) (aCons (dC (.int 1)) aNil))) (rCons (dTup aNil) rNil))))) aNil)))))))
  (sSeq (sRet (dOp fEq (dVar 14) (dOp fMul (dLst (aCons (dTup (aCons (dC (.str (Str.ofString "refused"))) aNil)) aNil)) (dC (.int 5)))))
  sNext))))
theorem m_law : mirrorL d_law gl45 = some F_law := by kernel_rfl
end K57
set_option Elab.async false
set_option linter.all false
set_option maxRecDepth 100000
set_option maxHeartbeats 1000000
namespace SE
open PySem
def extB (i : Nat) (ds : List D) (r1 : Env) : Option Sl → Out R
  | some (.ow p false (.list os)) => if os.length + ds.length ≤ lim then .ok (.va .none) (r1.set i (.ow p false (.list (os ++ ds)))) else .bad
  | _ => .bad
@[simp] theorem extB_ow (i : Nat) (ds : List D) (r1 : Env) (p : Bool) (os : List D) : extB i ds r1 (some (.ow p false (.list os))) = if os.length + ds.length ≤ lim then .ok (.va .none) (r1.set i (.ow p false (.list (os ++ ds)))) else .bad := of_eq_true (eq_true rfl)
def extC (i : Nat) (r1 : Env) : R → Out R
  | .nw (.list ds) => extB i ds r1 r1[i]?
  | _ => .bad
@[simp] theorem extC_nw (i : Nat) (r1 : Env) (ds : List D) : extC i r1 (.nw (.list ds)) = extB i ds r1 r1[i]? := of_eq_true (eq_true rfl)
def kExt (i : Nat) : R → Env → Out R := fun x r1 => extC i r1 x
@[simp] theorem kExt_at (i : Nat) (x : R) (r1 : Env) : kExt i x r1 = extC i r1 x := of_eq_true (eq_true rfl)
def extA (i : Nat) (e : DE) (r : Env) : Option Sl → Out R
  | some (.ow _ _ (.list _)) => (e r).bind (kExt i)
  | _ => .bad
@[simp] theorem extA_ow (i : Nat) (e : DE) (r : Env) (p l : Bool) (os : List D) : extA i e r (some (.ow p l (.list os))) = (e r).bind (kExt i) := of_eq_true (eq_true rfl)
@[simp] theorem x_ext (i : Nat) (e : DE) (r : Env) : dExt i e r = extA i e r r[i]? := by
  unfold dExt extA
  cases r[i]? with
  | none => rfl
  | some s =>
    cases s with
    | un => rfl
    | va p d => rfl
    | ow p l d =>
      cases d with
      | list os =>
        dsimp only
        congr 1
        funext x r1
        rw [kExt_at]
        cases x with
        | va d => rfl
        | sl j => rfl
        | nw d =>
          cases d with
          | list ds =>
            rw [extC_nw]
            unfold extB
            cases r1[i]? with
            | none => rfl
            | some s =>
              cases s with
              | un => rfl
              | va p d => rfl
              | ow p l d => cases l <;> cases d <;> rfl
          | _ => rfl
      | _ => rfl
theorem flat_one (d : D) : ∀ k : Nat, (List.replicate k [d]).flatten = List.replicate k d
  | 0 => rfl
  | k + 1 => by rw [List.replicate_succ, List.flatten_cons, flat_one d k, List.replicate_succ]; rfl
theorem fMul_l0 {n : Int} (d : D) (h0 : 0 ≤ n) (h1 : n ≤ 1000) : fMul (.list [d]) (.int n) = some (.nw (.list (List.replicate n.toNat d))) := by
  refine (if_pos ?_).trans ?_
  · simp
    unfold lim
    omega
  · rw [flat_one]
theorem fIx_last {xs : List D} {d : D} : fIx (.list (xs ++ [d])) (.int (-1)) = some (.va d) ∧ fIx (.tuple (xs ++ [d])) (.int (-1)) = some (.va d) := by
  constructor <;>
  · unfold fIx L2.atI L2.ixN
    dsimp only
    rw [if_neg (by decide), if_pos (by simp; omega), Option.bind_some]
    have e : (-1 + ((xs ++ [d]).length : Int)).toNat = xs.length := by simp; omega
    rw [e, List.getElem?_append_right (Nat.le_refl _)]
    simp
theorem zip_gen {α : Type} (en : α → D) (xs ys : List α) : zipD (xs.map en) (ys.map en) = (xs.zip ys).map fun p => PyData.tuple [en p.1, en p.2] := by
  unfold zipD
  rw [List.zip_eq_zipWith, List.zipWith_map, List.map_zipWith]
theorem cut_from {xs : List D} {k : Nat} : cut xs (some (k : Int)) none = xs.drop k := by
  unfold cut
  rw [HT.sIx_nat]
  have e2 : HT.sIx xs.length xs.length none = xs.length := rfl
  rw [e2]
  rcases Nat.le_total k xs.length with h | h
  · rw [Nat.min_eq_left h, List.take_of_length_le (by rw [List.length_drop]; omega)]
  · rw [Nat.min_eq_right h, List.drop_length, List.drop_of_length_le h, List.take_nil]
theorem fNe_b (a b : Bool) : fNe (.bool a) (.bool b) = some (.va (.bool (!decide (a = b)))) := by cases a <;> cases b <;> rfl
theorem fSl_from {xs : List D} {k : Int} (h : 0 ≤ k) : fSl (.tuple xs) (some k) none = some (.va (.tuple (xs.drop k.toNat))) ∧ fSl (.list xs) (some k) none = some (.nw (.list (xs.drop k.toNat))) := by
  have := cut_from (xs := xs) (k := k.toNat)
  rw [show ((k.toNat : Nat) : Int) = k by omega] at this
  constructor
  · show some (R.va (.tuple (cut _ _ _))) = _
    rw [this]
  · show some (R.nw (.list (cut _ _ _))) = _
    rw [this]
theorem fSl_to {xs : List D} {k : Int} (h : 0 ≤ k) : fSl (.tuple xs) none (some k) = some (.va (.tuple (xs.take k.toNat))) ∧ fSl (.list xs) none (some k) = some (.nw (.list (xs.take k.toNat))) := by
  have := cut_to xs k.toNat
  rw [show ((k.toNat : Nat) : Int) = k by omega] at this
  constructor
  · show some (R.va (.tuple (cut _ _ _))) = _
    rw [this]
  · show some (R.nw (.list (cut _ _ _))) = _
    rw [this]
theorem fRev_t (xs : List D) : fRev (.tuple xs) = some (.va (.tuple xs.reverse)) := rfl
theorem sm_bools {bs : List Bool} (h : bs.length ≤ 100) : Sm 1 1000 (.list (bs.map PyData.bool)) := by
  refine sm_list (k := 0) (n := 5) (fun d hd => ?_) (by rw [List.length_map]; omega)
  obtain ⟨b, _, rfl⟩ := List.mem_map.mp hd
  exact sm_bool b 0 5
theorem neg_pr (q : Rat) : PyData.tuple [.int (-q.num), .int (q.den : Int)] = prQ (-q) := by
  unfold prQ
  rw [Rat.neg_num, Rat.neg_den]
/-- parts of one -/
theorem prI_inv {d : Int} (h : 1 ≤ d) : prI (1, d) = prQ (((1 : Int) : Rat) / (d : Rat)) := by
  have : okV (1, d) := ⟨h, by show (0 : Int) ≤ 1; decide, by show Int.gcd 1 d = 1; exact Int.one_gcd⟩
  exact prI_q this
def frB (T : Nat) (K : Int) (q : Rat) : Bool := decide (q.den ∣ T) && decide (-(K * q.den) ≤ q.num) && decide (q.num ≤ K * q.den)
theorem Fr.ofB {T : Nat} {K : Int} {q : Rat} (hT : 0 < T) (h : frB T K q = true) : Fr T (K * T) q := by
  unfold frB at h
  simp only [Bool.and_eq_true, decide_eq_true_eq] at h
  obtain ⟨⟨h1, h2⟩, h3⟩ := h
  have := Fr.of (T := T) (a := q.num) (b := (q.den : Int)) (K := K) hT (by have := q.den_pos; omega) (Int.natCast_dvd_natCast.mpr h1) ⟨by rw [Int.neg_mul]; exact h2, h3⟩
  rw [← rat_nd] at this
  exact this
end SE
set_option Elab.async false
set_option linter.all false
set_option maxRecDepth 100000
set_option maxHeartbeats 1000000
namespace SE
open PySem
theorem less_qo {p q : Rat} (h : Bq p ∨ Bq q) (x y : Bool) : F_less [.va x (prQ p), .va y (prQ q)] = .ok (.va (.bool (decide (p < q)))) [.va x (prQ p), .va y (prQ q)] := by
  rw [less_ok (by rcases h with ⟨h, g⟩ | ⟨h, g⟩ <;> omega) (by rcases h with ⟨h, g⟩ | ⟨h, g⟩ <;> omega)]
  congr 4
  exact propext (Rat.lt_iff p q).symm
theorem above_qo {p q : Rat} (h : Bq p ∨ Bq q) (x y : Bool) : F_above [.va x (prQ p), .va y (prQ q)] = .ok (.va (.bool (decide (q < p)))) [.va x (prQ p), .va y (prQ q)] := by
  rw [above_i (by rcases h with ⟨h, g⟩ | ⟨h, g⟩ <;> omega) (by rcases h with ⟨h, g⟩ | ⟨h, g⟩ <;> omega)]
  congr 4
  exact propext (Rat.lt_iff q p).symm
theorem lt_div {a b c d : Int} (hb : 0 < b) (hd : 0 < d) : (a : Rat) / (b : Rat) < (c : Rat) / (d : Rat) ↔ a * d < c * b := by
  rw [Rat.lt_iff, ← fr_lt hb hd, fr_rat hb, fr_rat hd]
/-- a part times an int, not cancelled -/
theorem above_part {S m : Rat} {p : Int} (hm : Bq m) (hS : Bq S) (hp : 0 ≤ p ∧ p ≤ 1000) : F_above [.va false (prI (S.num * p, (S.den : Int))), .va false (prQ m)] = .ok (.va (.bool (decide (m < S * (p : Rat))))) [.va false (prI (S.num * p, (S.den : Int))), .va false (prQ m)] := by
  rw [above_i (.inr (by have := hm.2; omega)) (.inl (by have := hm.1; omega))]
  congr 4
  have e : S * (p : Rat) = ((S.num * p : Int) : Rat) / ((S.den : Int) : Rat) := by
    have e1 := rat_nd S
    have e2 := den_ne S
    rw [Rat.intCast_mul]
    generalize (S.num : Rat) = a at *
    generalize ((S.den : Int) : Rat) = b at *
    grind
  have e2 := rat_nd m
  rw [e]
  apply propext
  have key := lt_div (a := m.num) (b := (m.den : Int)) (c := S.num * p) (d := (S.den : Int)) (by have := m.den_pos; omega) (by have := S.den_pos; omega)
  rw [← e2] at key
  rw [key]
theorem is_ratio_q {q : Rat} (h : Bq q) (x : Bool) : F_is_ratio [.va x (prQ q)] = .ok (.va (.bool true)) [.va x (prQ q)] := by
  have := is_ratio_v (v := (q.num, (q.den : Int))) (by have := h.1; show q.num.natAbs < _; omega) (by have := h.2; show ((q.den : Nat) : Int).natAbs < _; omega) x
  have h1 : (1 : Int) ≤ (q.den : Int) := by have := q.den_pos; omega
  have h2 : Int.gcd q.num (q.den : Int) = 1 := by
    unfold Int.gcd
    rw [Int.natAbs_natCast]
    exact q.reduced
  simp only [h1, h2, decide_true, Bool.and_self] at this
  exact this
theorem tixQ {qs : List Rat} {k : Nat} (h : k < qs.length) : fIx (.tuple (qs.map prQ)) (.int (k : Int)) = some (.va (prQ (qs.getD k 0))) := fIx_t (by omega) (by
  rw [Int.toNat_natCast, List.getElem?_map, List.getD_eq_getElem?_getD, List.getElem?_eq_getElem h]; rfl)
/-- an enumerated row -/
def eL : Nat → List Rat → List (Nat × Rat)
  | _, [] => []
  | k, q :: qs => (k, q) :: eL (k + 1) qs
theorem enD_eL : ∀ (qs : List Rat) (k : Nat), enD k (qs.map prQ) = (eL k qs).map fun p => PyData.tuple [.int (p.1 : Int), prQ p.2]
  | [], k => rfl
  | q :: qs, k => by
    rw [List.map_cons]
    unfold enD eL
    rw [List.map_cons, enD_eL qs (k + 1)]
theorem eL_mem : ∀ (qs : List Rat) (k : Nat) (p : Nat × Rat), p ∈ eL k qs → k ≤ p.1 ∧ p.1 < k + qs.length ∧ p.2 ∈ qs
  | [], k, p, h => by cases h
  | q :: qs, k, p, h => by
    unfold eL at h
    rcases List.mem_cons.mp h with rfl | h
    · exact ⟨Nat.le_refl _, by simp, List.mem_cons_self⟩
    · obtain ⟨h1, h2, h3⟩ := eL_mem qs (k + 1) p h
      exact ⟨by omega, by rw [List.length_cons]; omega, List.mem_cons_of_mem _ h3⟩
theorem eL_len : ∀ (qs : List Rat) (k : Nat), (eL k qs).length = qs.length
  | [], k => rfl
  | q :: qs, k => by unfold eL; rw [List.length_cons, eL_len qs, List.length_cons]
theorem eL_sum (f : Nat → Int) : ∀ (qs : List Rat) (k : Nat), ((eL k qs).map fun p => ((f p.1 : Int) : Rat) * p.2).sum = wsum f k qs
  | [], k => rfl
  | q :: qs, k => by
    unfold eL wsum
    rw [List.map_cons, sumQ_cons, eL_sum f qs]
def ssum (f : Nat → Rat) : Nat → List Rat → Rat
  | _, [] => 0
  | k, q :: qs => f k * q + ssum f (k + 1) qs
theorem wsum_ssum (f : Nat → Int) : ∀ (qs : List Rat) (k : Nat), wsum f k qs = ssum (fun i => ((f i : Int) : Rat)) k qs
  | [], k => rfl
  | q :: qs, k => by unfold wsum ssum; rw [wsum_ssum f qs]
theorem ssum_le {f g : Nat → Rat} : ∀ (qs : List Rat) (k : Nat), (∀ q ∈ qs, 0 ≤ q) → (∀ i, k ≤ i → i < k + qs.length → f i ≤ g i) → ssum f k qs ≤ ssum g k qs
  | [], k, h, hi => Rat.le_refl
  | q :: qs, k, h, hi => by
    have h1 := Rat.mul_le_mul_of_nonneg_right (hi k (Nat.le_refl _) (by simp)) (h q List.mem_cons_self)
    have h2 := ssum_le qs (k + 1) (fun x hx => h x (List.mem_cons_of_mem _ hx)) fun i a b => hi i (by omega) (by rw [List.length_cons]; omega)
    unfold ssum
    grind
theorem ssum_congr {f g : Nat → Rat} : ∀ (qs : List Rat) (k : Nat), (∀ i, k ≤ i → i < k + qs.length → f i = g i) → ssum f k qs = ssum g k qs
  | [], k, hi => rfl
  | q :: qs, k, hi => by
    unfold ssum
    rw [hi k (Nat.le_refl _) (by simp), ssum_congr qs (k + 1) fun i a b => hi i (by omega) (by rw [List.length_cons]; omega)]
theorem ssum_mul {f : Nat → Rat} (c : Rat) : ∀ (qs : List Rat) (k : Nat), ssum (fun i => c * f i) k qs = c * ssum f k qs
  | [], k => by unfold ssum; rw [Rat.mul_zero]
  | q :: qs, k => by
    unfold ssum
    rw [ssum_mul c qs]
    grind
theorem ssum_add {f g : Nat → Rat} : ∀ (qs : List Rat) (k : Nat), ssum (fun i => f i + g i) k qs = ssum f k qs + ssum g k qs
  | [], k => by unfold ssum; rw [Rat.add_zero]
  | q :: qs, k => by
    unfold ssum
    rw [ssum_add qs]
    grind
theorem ssum_zero : ∀ (qs : List Rat) (k : Nat), ssum (fun _ => 0) k qs = 0
  | [], k => rfl
  | q :: qs, k => by
    unfold ssum
    rw [ssum_zero qs, Rat.zero_mul, Rat.add_zero]
theorem ssum_const (c : Rat) : ∀ (qs : List Rat) (k : Nat), ssum (fun _ => c) k qs = c * qs.sum
  | [], k => by
    unfold ssum
    rw [show ([] : List Rat).sum = 0 from rfl, Rat.mul_zero]
  | q :: qs, k => by
    unfold ssum
    rw [ssum_const c qs, sumQ_cons, Rat.mul_add]
/-- two sums, swapped -/
theorem ssum_swap (g : Nat → Nat → Rat) : ∀ (ps : List Rat) (l : Nat) (qs : List Rat) (k : Nat), ssum (fun j => ssum (fun i => g i j) k qs) l ps = ssum (fun i => ssum (fun j => g i j) l ps) k qs
  | [], l, qs, k => by
    show (0 : Rat) = ssum (fun i => 0) k qs
    rw [ssum_zero]
  | p :: ps, l, qs, k => by
    show ssum (fun i => g i l) k qs * p + ssum (fun j => ssum (fun i => g i j) k qs) (l + 1) ps = ssum (fun i => g i l * p + ssum (fun j => g i j) (l + 1) ps) k qs
    rw [ssum_swap g ps (l + 1) qs k]
    rw [ssum_add (f := fun i => g i l * p), Rat.mul_comm]
    congr 1
    rw [← ssum_mul]
    apply ssum_congr
    intro i _ _
    rw [Rat.mul_comm]
/-- all of a stretch -/
def pAll (P : Int → Bool) : Nat → Int → Bool
  | 0, _ => true
  | n + 1, p => P p && pAll P n (p + 1)
theorem pAll_iff {P : Int → Bool} : ∀ {n : Nat} {p : Int}, pAll P n p = true ↔ ∀ i, p ≤ i → i < p + n → P i = true
  | 0, p => ⟨fun _ i h1 h2 => by omega, fun _ => rfl⟩
  | n + 1, p => by
    unfold pAll
    rw [Bool.and_eq_true, pAll_iff]
    constructor
    · rintro ⟨h1, h2⟩ i a b
      by_cases e : i = p
      · rw [e]; exact h1
      · exact h2 i (by omega) (by omega)
    · intro h
      exact ⟨h p (by omega) (by omega), fun i a b => h i (by omega) (by omega)⟩
theorem pAll_range {P : Int → Bool} {n : Nat} {p : Int} : ((List.range n).any fun (j : Nat) => !P (p + (j : Int))) = !pAll P n p := by
  rw [Bool.eq_iff_iff, List.any_eq_true, Bool.not_eq_true', ← Bool.not_eq_true, pAll_iff]
  constructor
  · rintro ⟨j, hj, h⟩ h2
    have := h2 (p + j) (by omega) (by have := List.mem_range.mp hj; omega)
    rw [this] at h
    cases h
  · intro h
    apply Classical.byContradiction
    intro hc
    apply h
    intro i a b
    cases hP : P i with
    | true => rfl
    | false =>
      exfalso
      apply hc
      refine ⟨(i - p).toNat, List.mem_range.mpr (by omega), ?_⟩
      rw [show p + (((i - p).toNat : Nat) : Int) = i by omega, hP]
      rfl
end SE
set_option Elab.async false
set_option linter.all false
set_option maxRecDepth 100000
set_option maxHeartbeats 1000000
namespace SE
open PySem
def itemsG {α : Type} (f : Int → α → D) (st : Int) : Int → List α → List D
  | _, [] => []
  | c, x :: xs => f c x :: itemsG f st (c + st) xs
theorem itemsG_len {α : Type} (f : Int → α → D) (st : Int) : ∀ (xs : List α) (c : Int), (itemsG f st c xs).length = xs.length
  | [], c => rfl
  | x :: xs, c => by unfold itemsG; rw [List.length_cons, itemsG_len f st xs, List.length_cons]
theorem lcRun_G {α : Type} (f : Int → α → D) (st : Int) : ∀ (xs : List α) (c : Int), lcRun (fun (c : Int) (x : α) => (some (f c x), c + st)) c xs = (itemsG f st c xs, c + st * xs.length)
  | [], c => by simp [lcRun, itemsG]
  | x :: xs, c => by
    unfold lcRun itemsG
    simp only [lcRun_G f st xs (c + st), List.length_cons]
    congr 1
    rw [Int.natCast_add, Int.mul_add]
    simp
    omega
theorem lc_G {α : Type} {vs : List Nat} {it : DI} {p : Pat} {e : DE} {r0 r : Env} {i : Nat} {b : Bool} {ns : List Int} {c st B : Int} (f : Int → α → D) (en : α → D) (xs : List α) (hst : 0 ≤ st) (hit : it r0 = .ok (xs.map en, none) r) (hv : vs.all (notOw r) = true)
    (hri : r[i]? = some (.ow b false (stD ns c))) (hi : i ∉ vs) (hc : 0 ≤ c) (hc2 : c + st * xs.length ≤ B) (hl : xs.length ≤ lim)
    (h : ∀ (c' : Int) (x : α), 0 ≤ c' → c' + st ≤ B → x ∈ xs → lcA vs tYes e (some (f c' x)) (wipeE vs (r.set i (.ow b false (stD ns (c' + st))))) (put p (en x) (wipeE vs (r.set i (.ow b false (stD ns c')))))) :
    dLc vs it p tYes e r0 = .ok (.nw (.list (itemsG f st c xs))) (r.set i (.ow b false (stD ns (c + st * xs.length)))) := by
  have hir : i < r.length := (List.getElem?_eq_some_iff.mp hri).1
  have hself : r.set i (.ow b false (stD ns c)) = r := by
    apply List.ext_getElem?
    intro k
    rw [List.getElem?_set]
    by_cases e : i = k
    · subst e; rw [if_pos rfl, if_pos hir, hri]
    · simp [e]
  obtain ⟨_, r2, b1, b2⟩ := lc_run (S := Int) (p := p) (t := tYes) (e := e) en (fun c' => wipeE vs (r.set i (.ow b false (stD ns c')))) (fun n c' => 0 ≤ c' ∧ c' + st * (n : Int) ≤ B) (fun (c' : Int) (x : α) => (some (f c' x), c' + st)) xs c hit hv (by show wipeE vs r = _; rw [hself]) ⟨hc, hc2⟩
    (fun c' x n hI hx => by
      obtain ⟨i1, i2⟩ := hI
      have e2 : st * ((n + 1 : Nat) : Int) = st * (n : Int) + st := by rw [Int.natCast_add, Int.mul_add]; simp
      have e3 : 0 ≤ st * (n : Int) := Int.mul_nonneg hst (by omega)
      exact ⟨⟨by show 0 ≤ c' + st; omega, by show c' + st + st * (n : Int) ≤ B; omega⟩, h c' x i1 (by omega) hx⟩) (by rw [lcRun_G]; show (itemsG f st c xs).length ≤ lim; rw [itemsG_len]; exact hl)
  rw [b1, lcRun_G]
  congr 1
  rw [lcRun_G] at b2
  simp only at b2
  show backE r vs r2 = _
  have hlen : r2.length = r.length := by
    rw [wipe_len b2, wipeE_len, List.length_set]
  apply List.ext_getElem?
  intro k
  rw [backE_get r vs r2 k hlen]
  by_cases hk : k ∈ vs
  · rw [if_pos hk, List.getElem?_set, if_neg (fun e => hi (by rw [e]; exact hk))]
  · rw [if_neg hk]
    have : (wipeE vs r2)[k]? = (wipeE vs (r.set i (.ow b false (stD ns (c + st * xs.length)))))[k]? := by rw [b2]
    rw [wipeE_get, wipeE_get, if_neg (fun z => hk z.1), if_neg (fun z => hk z.1)] at this
    exact this
theorem fIn_bools (bs : List Bool) : fIn (.bool true) (.list (bs.map PyData.bool)) = some (.va (.bool (bs.any id))) := by
  have h1 : (flat (.bool true) && (bs.map PyData.bool).all flat) = true := by
    rw [Bool.and_eq_true]
    refine ⟨rfl, ?_⟩
    rw [List.all_eq_true]
    intro d hd
    obtain ⟨b, _, rfl⟩ := List.mem_map.mp hd
    rfl
  have h2 : inD (.bool true) (bs.map PyData.bool) = bs.any id := by
    unfold inD
    rw [List.any_map]
    congr 1
    funext b
    cases b <;> kernel_rfl
  have h3 : dIn (.bool true) (.list (bs.map PyData.bool)) = some (bs.any id) := by
    rw [← h2]
    exact if_pos h1
  unfold fIn
  rw [h3]
  rfl
end SE
set_option Elab.async false
set_option linter.all false
set_option maxRecDepth 100000
set_option maxHeartbeats 1000000
namespace SE
open PySem
theorem sum_fr {T : Nat} {K : Int} (hT : 0 < T) : ∀ (qs : List Rat), (∀ q ∈ qs, Fr T K q) → Fr T (K * qs.length) qs.sum
  | [], h => by simpa using Fr.zero hT (Int.le_refl 0)
  | q :: qs, h => by
    have := (h q List.mem_cons_self).add (sum_fr hT qs fun x hx => h x (List.mem_cons_of_mem _ hx))
    rw [sumQ_cons, List.length_cons]
    refine this.mono ?_
    rw [Int.natCast_add, Int.mul_add]
    simp
    omega
theorem sum_nonneg : ∀ (qs : List Rat), (∀ q ∈ qs, 0 ≤ q) → 0 ≤ qs.sum
  | [], h => by simp
  | q :: qs, h => by
    have h1 := h q List.mem_cons_self
    have h2 := sum_nonneg qs fun x hx => h x (List.mem_cons_of_mem _ hx)
    rw [sumQ_cons]
    grind
theorem div_nonneg {a b : Int} (ha : 0 ≤ a) (hb : 0 < b) : (0 : Rat) ≤ (a : Rat) / (b : Rat) := by
  have h1 := cast_pos hb
  have h2 : (0 : Rat) ≤ (a : Rat) := Rat.intCast_nonneg.mpr ha
  rw [Rat.div_def]
  exact Rat.mul_nonneg h2 (Rat.le_of_lt (Rat.inv_pos.mpr h1))
theorem div_pos {a b : Int} (ha : 0 < a) (hb : 0 < b) : (0 : Rat) < (a : Rat) / (b : Rat) := by
  rw [Rat.div_def]
  exact Rat.mul_pos (cast_pos ha) (Rat.inv_pos.mpr (cast_pos hb))
theorem num_pos {q : Rat} (h : 0 < q) : 0 < q.num := by
  have h1 : 0 ≤ q.num := Rat.num_nonneg.mpr (Rat.le_of_lt h)
  have h2 : q.num ≠ 0 := fun e => by
    have := rat_nd q
    rw [e] at this
    rw [this] at h
    simp [Rat.div_def] at h
  omega
theorem bq_int {c : Int} (h : -1000000 ≤ c ∧ c ≤ 1000000) : Bq (c : Rat) := by
  unfold Bq
  rw [Rat.num_intCast, Rat.den_intCast]
  omega
theorem Fr.neg {T : Nat} {K : Int} {q : Rat} (h : Fr T K q) : Fr T K (-q) := by
  obtain ⟨h0, k, e, h1, h2⟩ := h
  refine ⟨h0, -k, ?_, by omega, by omega⟩
  rw [e, Rat.intCast_neg, Rat.div_def, Rat.div_def, Rat.neg_mul]
theorem all_ok {vs : List (Int × Int)} (h : vs.all okB = true) : ∀ v ∈ vs, okV v := fun v hv => okB_iff.mp (List.all_eq_true.mp h v hv)
theorem RowOk.abs {T : Nat} {vs : List (Int × Int)} (R : RowOk T vs) {v : Int × Int} (hv : v ∈ vs) : v.1.natAbs < 10 ^ 45 ∧ v.2.natAbs < 10 ^ 45 := by
  have := R.bd v hv
  omega
theorem row_sum {T : Nat} {vs : List (Int × Int)} (R : RowOk T vs) : 2 * (T : Int) * ((qsOf vs).length : Int) ≤ 10000000000000000 := by
  have hl := R.len
  have hp := R.pos
  have : (qsOf vs).length = vs.length := by unfold qsOf; rw [List.length_map]
  rw [this]
  have h3 : 2 * (T : Int) ≤ 200000000000000 := by omega
  have := mul_small (a := 2 * (T : Int)) (b := (vs.length : Int)) (B := 50) (by omega) h3 (by omega) (by omega)
  omega
theorem wsum_fr {T : Nat} {K L : Int} (h0 : 0 < T) {f : Nat → Int} : ∀ (qs : List Rat) (k : Nat), (∀ q ∈ qs, Fr T K q) → (∀ i, -L ≤ f i ∧ f i ≤ L) → Fr T (L * K * qs.length) (wsum f k qs)
  | [], k, h, hf => by unfold wsum; simpa using Fr.zero h0 (Int.le_refl 0)
  | q :: qs, k, h, hf => by
    have := ((h q List.mem_cons_self).mulI (hf k)).add (wsum_fr h0 qs (k + 1) (fun x hx => h x (List.mem_cons_of_mem _ hx)) hf)
    unfold wsum
    refine this.mono ?_
    rw [List.length_cons, Int.natCast_add, Int.mul_add]
    simp
    omega
abbrev tupP (vs : List (Int × Int)) : D := .tuple (vs.map prI)
theorem q_nonneg {vs : List (Int × Int)} (h : ∀ v ∈ vs, okV v) : ∀ q ∈ qsOf vs, 0 ≤ q := by
  intro q hq
  obtain ⟨v, hv, rfl⟩ := List.mem_map.mp hq
  have := h v hv
  exact div_nonneg this.2.1 (by have := this.1; omega)
def prs (qs : List Rat) : List (Int × Int) := qs.map fun q => (q.num, (q.den : Int))
theorem prs_prI (qs : List Rat) : (prs qs).map prI = qs.map prQ := by
  unfold prs
  rw [List.map_map]
  rfl
theorem Fr.parts {T : Nat} {K : Int} {q : Rat} (h : Fr T (K * T) q) : ((q.den : Int) ∣ (T : Int)) ∧ -(K * q.den) ≤ q.num ∧ q.num ≤ K * q.den := by
  obtain ⟨h0, k, e, h1, h2⟩ := h
  have hf := fr_rat (a := k) (b := (T : Int)) (by omega)
  rw [← e] at hf
  have hn : q.num = k / (Int.gcd k (T : Int) : Int) := (congrArg Prod.fst hf).symm
  have hd : ((q.den : Nat) : Int) = (T : Int) / (Int.gcd k (T : Int) : Int) := (congrArg Prod.snd hf).symm
  obtain ⟨m1, m2⟩ := fr_mul k (T : Int)
  have g0 := gcd_pos (a := k) (b := (T : Int)) (by omega)
  rw [hf] at m1 m2
  dsimp only at m1 m2
  generalize (Int.gcd k (T : Int) : Int) = g at *
  have dd := q.den_pos
  refine ⟨⟨g, by rw [m2]; exact Int.mul_comm _ _⟩, ?_, ?_⟩
  · have : g * (-(K * q.den)) ≤ g * q.num := by
      rw [← m1, Int.mul_neg, show g * (K * (q.den : Int)) = K * (g * q.den) by ac_rfl, ← m2]
      exact h1
    exact Int.le_of_mul_le_mul_left this g0
  · have : g * q.num ≤ g * (K * q.den) := by
      rw [← m1, show g * (K * (q.den : Int)) = K * (g * q.den) by ac_rfl, ← m2]
      exact h2
    exact Int.le_of_mul_le_mul_left this g0
theorem rowOk_prs {T : Nat} {qs : List Rat} (hT : 0 < T ∧ T ≤ 100000000000000) (hl : qs.length ≤ 50) (h : ∀ q ∈ qs, Fr T (2 * (T : Int)) q) : RowOk T (prs qs) := by
  refine ⟨hT, by unfold prs; rw [List.length_map]; exact hl, fun v hv => ?_, fun v hv _ => ?_⟩
  · obtain ⟨q, hq, rfl⟩ := List.mem_map.mp hv
    obtain ⟨p1, p2, p3⟩ := Fr.parts (h q hq)
    have p4 := Int.le_of_dvd (by omega) p1
    have p5 := q.den_pos
    dsimp only
    omega
  · obtain ⟨q, hq, rfl⟩ := List.mem_map.mp hv
    exact (Fr.parts (h q hq)).1
theorem RowOk.sub {T : Nat} {vs us : List (Int × Int)} (R : RowOk T vs) (hl : us.length ≤ 50) (h : ∀ v ∈ us, v ∈ vs ∨ v = (0, 1) ∨ v = (1, 1) ∨ v = (-1, 3)) : RowOk T us := by
  have hT := R.pos
  refine ⟨R.pos, hl, fun v hv => ?_, fun v hv hk => ?_⟩
  · rcases h v hv with h | rfl | rfl | rfl
    · exact R.bd v h
    · decide
    · decide
    · decide
  · rcases h v hv with h | rfl | rfl | rfl
    · exact R.dvd v h hk
    · exact Int.one_dvd _
    · exact Int.one_dvd _
    · exact absurd hk.2.1 (by decide)
theorem RowOk.dbl {T : Nat} {vs : List (Int × Int)} (R : RowOk T vs) (hb : ∀ v ∈ vs, v.2 ≤ 1000000000000000) : RowOk T (vs.map fun v => (2 * v.1, 2 * v.2)) := by
  refine ⟨R.pos, by rw [List.length_map]; exact R.len, fun v hv => ?_, fun v hv hk => ?_⟩
  · obtain ⟨u, hu, rfl⟩ := List.mem_map.mp hv
    have h1 := R.bd u hu
    have h2 := hb u hu
    dsimp only
    omega
  · obtain ⟨u, hu, rfl⟩ := List.mem_map.mp hv
    have h1 := hk.2.2
    dsimp only at h1
    rw [Int.gcd_mul_left] at h1
    have h2 : Int.natAbs 2 = 2 := rfl
    rw [h2] at h1
    omega
theorem prs_den {T : Nat} {qs : List Rat} (hT : 0 < T ∧ T ≤ 100000000000000) (h : ∀ q ∈ qs, Fr T (2 * (T : Int)) q) : ∀ v ∈ prs qs, v.2 ≤ 1000000000000000 := by
  intro v hv
  obtain ⟨q, hq, rfl⟩ := List.mem_map.mp hv
  have p4 := Int.le_of_dvd (by omega) (Fr.parts (h q hq)).1
  dsimp only
  omega
theorem getD_memQ {qs : List Rat} {k : Nat} (h : k < qs.length) : qs.getD k 0 ∈ qs := by
  rw [List.getD_eq_getElem?_getD, List.getElem?_eq_getElem h]
  exact List.getElem_mem h
def bends (qs : List Rat) (a o : Nat) (r : Rat) : List (List (Int × Int)) :=
  let m := (qs.set a (qs.getD a 0 + -(qs.getD a 0 * r)))
  [prs (m.set o (m.getD o 0 + qs.getD a 0 * r)), (prs qs).drop 1, prs qs ++ [(0, 1)], (prs qs).reverse, (prs qs).map (fun v => (2 * v.1, 2 * v.2)), (prs qs).take a ++ [(-1, 3)] ++ (prs qs).drop (a + 1)]
theorem part_fr {T : Nat} {q : Rat} {c : Int} (h : Fr T (1 * (T : Int)) q) (hc : 0 ≤ c ∧ c ≤ 10) : Fr (T * 10) (1 * ((T * 10 : Nat) : Int)) (q * ((c : Rat) / ((10 : Int) : Rat))) := by
  obtain ⟨h0, k, e, a1, a2⟩ := h
  have hT := cast_ne (b := (T : Int)) (by omega)
  have ha : (k * c).natAbs ≤ T * 10 := by
    rw [Int.natAbs_mul]
    exact Nat.mul_le_mul (by omega) (by omega)
  refine ⟨by omega, k * c, ?_, by omega, by omega⟩
  rw [e, Rat.intCast_mul, Int.natCast_mul, Rat.intCast_mul]
  have h10 := cast_ne (b := 10) (by decide)
  rw [show (((10 : Nat) : Int) : Rat) = ((10 : Int) : Rat) from rfl]
  generalize ((T : Int) : Rat) = t at *
  generalize ((10 : Int) : Rat) = u at *
  grind
theorem bends_ok {T : Nat} {qs : List Rat} (hT : 0 < T ∧ T ≤ 10000000000000) (hl : 1 ≤ qs.length ∧ qs.length ≤ 40) (h : ∀ q ∈ qs, Fr T (1 * (T : Int)) q) {a o : Nat} (ha : a < qs.length) (ho : o < qs.length) {c : Int} (hc : 0 ≤ c ∧ c ≤ 10) :
    ∀ vs ∈ bends qs a o ((c : Rat) / ((10 : Int) : Rat)), RowOk (T * 10) vs := by
  have hT2 : 0 < T * 10 ∧ T * 10 ≤ 100000000000000 := by omega
  have h2 : ∀ q ∈ qs, Fr (T * 10) (1 * ((T * 10 : Nat) : Int)) q := fun q hq => by
    have := (h q hq).tm (m := 10) (by decide)
    refine this.mono ?_
    rw [Int.natCast_mul, Int.one_mul, Int.one_mul]
    exact Int.le_refl _
  have h3 : ∀ q ∈ qs, Fr (T * 10) (2 * ((T * 10 : Nat) : Int)) q := fun q hq => (h2 q hq).mono (by omega)
  have R := rowOk_prs hT2 (by omega) h3
  have rb := prs_den hT2 h3
  have hg := getD_memQ ha
  have hp := part_fr (h _ hg) hc
  have lp : (prs qs).length = qs.length := by unfold prs; rw [List.length_map]
  intro vs hvs
  unfold bends at hvs
  dsimp only at hvs
  simp only [List.mem_cons, List.not_mem_nil, or_false] at hvs
  rcases hvs with rfl | rfl | rfl | rfl | rfl | rfl
  · refine rowOk_prs hT2 (by simp only [List.length_set]; omega) fun q hq => ?_
    have hm : ∀ x ∈ qs.set a (qs.getD a 0 + -(qs.getD a 0 * ((c : Rat) / ((10 : Int) : Rat)))), Fr (T * 10) (2 * ((T * 10 : Nat) : Int)) x := fun x hx => by
      rcases List.mem_or_eq_of_mem_set hx with hx | rfl
      · exact h3 x hx
      · exact ((h2 _ hg).add (Fr.neg hp)).mono (by omega)
    rcases List.mem_or_eq_of_mem_set hq with hq | rfl
    · exact hm q hq
    · by_cases e : a = o
      · subst e
        have : (qs.set a (qs.getD a 0 + -(qs.getD a 0 * ((c : Rat) / ((10 : Int) : Rat))))).getD a 0 = qs.getD a 0 + -(qs.getD a 0 * ((c : Rat) / ((10 : Int) : Rat))) := by
          rw [List.getD_eq_getElem?_getD, List.getElem?_set, if_pos rfl, if_pos ha]; rfl
        rw [this, Rat.add_assoc, Rat.neg_add_cancel, Rat.add_zero]
        exact h3 _ hg
      · have : (qs.set a (qs.getD a 0 + -(qs.getD a 0 * ((c : Rat) / ((10 : Int) : Rat))))).getD o 0 = qs.getD o 0 := by
          rw [List.getD_eq_getElem?_getD, List.getElem?_set, if_neg e, ← List.getD_eq_getElem?_getD]
        rw [this]
        exact ((h2 _ (getD_memQ ho)).add hp).mono (by omega)
  · exact RowOk.sub R (by rw [List.length_drop]; omega) fun v hv => .inl (List.mem_of_mem_drop hv)
  · refine RowOk.sub R (by rw [List.length_append, List.length_singleton]; omega) fun v hv => ?_
    rcases List.mem_append.mp hv with hv | hv
    · exact .inl hv
    · exact .inr (.inl (List.mem_singleton.mp hv))
  · exact RowOk.sub R (by rw [List.length_reverse]; omega) fun v hv => .inl (List.mem_reverse.mp hv)
  · exact RowOk.dbl R rb
  · refine RowOk.sub R (by simp only [List.length_append, List.length_take, List.length_drop, List.length_singleton]; omega) fun v hv => ?_
    rcases List.mem_append.mp hv with hv | hv
    · rcases List.mem_append.mp hv with hv | hv
      · exact .inl (List.mem_of_mem_take hv)
      · exact .inr (.inr (.inr (List.mem_singleton.mp hv)))
    · exact .inl (List.mem_of_mem_drop hv)
theorem tixQl {qs : List Rat} {k : Nat} (h : k < qs.length) : fIx (.list (qs.map prQ)) (.int (k : Int)) = some (.va (prQ (qs.getD k 0))) := fIx_l (by omega) (by
  rw [Int.toNat_natCast, List.getElem?_map, List.getD_eq_getElem?_getD, List.getElem?_eq_getElem h]; rfl)
end SE
set_option Elab.async false
set_option linter.all false
set_option maxRecDepth 1000000
set_option maxHeartbeats 4000000
namespace K57
open PySem SE
abbrev NA : Exn := ⟨Str.ofString "NotAllowed", []⟩
def rateP (n : Nat) : Int × Int := [(1, 1), (4, 3), (27, 19), (256, 175), (3125, 2101), (46656, 31031), (823543, 543607), (16777216, 11012415), (387420489, 253202761), (10000000000, 6513215599), (285311670611, 185311670611), (8916100448256, 5777672071535)].getD (n - 1) (1, 1)
def dayP (n : Nat) : List (Int × Int) := [[(1, 1)],
  [(1, 3), (2, 3)],
  [(4, 19), (6, 19), (9, 19)],
  [(27, 175), (36, 175), (48, 175), (64, 175)],
  [(256, 2101), (320, 2101), (400, 2101), (500, 2101), (625, 2101)],
  [(3125, 31031), (3750, 31031), (4500, 31031), (5400, 31031), (6480, 31031), (7776, 31031)],
  [(46656, 543607), (54432, 543607), (63504, 543607), (74088, 543607), (86436, 543607), (100842, 543607), (117649, 543607)],
  [(823543, 11012415), (941192, 11012415), (1075648, 11012415), (1229312, 11012415), (1404928, 11012415), (1605632, 11012415), (1835008, 11012415), (2097152, 11012415)],
  [(16777216, 253202761), (18874368, 253202761), (21233664, 253202761), (23887872, 253202761), (26873856, 253202761), (30233088, 253202761), (34012224, 253202761), (38263752, 253202761), (43046721, 253202761)],
  [(387420489, 6513215599), (430467210, 6513215599), (478296900, 6513215599), (531441000, 6513215599), (590490000, 6513215599), (656100000, 6513215599), (729000000, 6513215599), (810000000, 6513215599), (900000000, 6513215599), (1000000000, 6513215599)],
  [(10000000000, 185311670611), (11000000000, 185311670611), (12100000000, 185311670611), (13310000000, 185311670611), (14641000000, 185311670611), (16105100000, 185311670611), (17715610000, 185311670611), (19487171000, 185311670611), (21435888100, 185311670611), (23579476910, 185311670611), (25937424601, 185311670611)],
  [(285311670611, 5777672071535), (311249095212, 5777672071535), (339544467504, 5777672071535), (370412146368, 5777672071535), (404085977856, 5777672071535), (440821066752, 5777672071535), (480895709184, 5777672071535), (524613500928, 5777672071535), (572305637376, 5777672071535), (624333422592, 5777672071535), (681091006464, 5777672071535), (743008370688, 5777672071535)]].getD (n - 1) []
def lenP (n : Nat) : List (Int × Int) := [[(1, 1)],
  [(1, 2), (1, 2)],
  [(1, 3), (2, 9), (4, 9)],
  [(1, 4), (3, 16), (9, 64), (27, 64)],
  [(1, 5), (4, 25), (16, 125), (64, 625), (256, 625)],
  [(1, 6), (5, 36), (25, 216), (125, 1296), (625, 7776), (3125, 7776)],
  [(1, 7), (6, 49), (36, 343), (216, 2401), (1296, 16807), (7776, 117649), (46656, 117649)],
  [(1, 8), (7, 64), (49, 512), (343, 4096), (2401, 32768), (16807, 262144), (117649, 2097152), (823543, 2097152)],
  [(1, 9), (8, 81), (64, 729), (512, 6561), (4096, 59049), (32768, 531441), (262144, 4782969), (2097152, 43046721), (16777216, 43046721)],
  [(1, 10), (9, 100), (81, 1000), (729, 10000), (6561, 100000), (59049, 1000000), (531441, 10000000), (4782969, 100000000), (43046721, 1000000000), (387420489, 1000000000)],
  [(1, 11), (10, 121), (100, 1331), (1000, 14641), (10000, 161051), (100000, 1771561), (1000000, 19487171), (10000000, 214358881), (100000000, 2357947691), (1000000000, 25937424601), (10000000000, 25937424601)],
  [(1, 12), (11, 144), (121, 1728), (1331, 20736), (14641, 248832), (161051, 2985984), (1771561, 35831808), (19487171, 429981696), (214358881, 5159780352), (2357947691, 61917364224), (25937424601, 743008370688), (285311670611, 743008370688)]].getD (n - 1) []
theorem ratio_v {n : Int} (h : 1 ≤ n ∧ n ≤ 12) : F_mixed_ratio [.va false (.int n)] = .ok (.va (prI (rateP n.toNat))) [.va false (.int n)] := by
  have : n = 1 ∨ n = 2 ∨ n = 3 ∨ n = 4 ∨ n = 5 ∨ n = 6 ∨ n = 7 ∨ n = 8 ∨ n = 9 ∨ n = 10 ∨ n = 11 ∨ n = 12 := by omega
  rcases this with rfl | rfl | rfl | rfl | rfl | rfl | rfl | rfl | rfl | rfl | rfl | rfl <;> kernel_rfl
theorem days_v {n : Int} (h : 1 ≤ n ∧ n ≤ 12) : F_mixed_days [.va false (.int n)] = .ok (.va (tupP (dayP n.toNat))) [.va false (.int n)] := by
  have : n = 1 ∨ n = 2 ∨ n = 3 ∨ n = 4 ∨ n = 5 ∨ n = 6 ∨ n = 7 ∨ n = 8 ∨ n = 9 ∨ n = 10 ∨ n = 11 ∨ n = 12 := by omega
  rcases this with rfl | rfl | rfl | rfl | rfl | rfl | rfl | rfl | rfl | rfl | rfl | rfl <;> kernel_rfl
theorem lens_v {n : Int} (h : 1 ≤ n ∧ n ≤ 12) : F_hard_seasons [.va false (.int n)] = .ok (.va (tupP (lenP n.toNat))) [.va false (.int n)] := by
  have : n = 1 ∨ n = 2 ∨ n = 3 ∨ n = 4 ∨ n = 5 ∨ n = 6 ∨ n = 7 ∨ n = 8 ∨ n = 9 ∨ n = 10 ∨ n = 11 ∨ n = 12 := by omega
  rcases this with rfl | rfl | rfl | rfl | rfl | rfl | rfl | rfl | rfl | rfl | rfl | rfl <;> kernel_rfl
def rateQ (n : Int) : Rat := toQ (rateP n.toNat)
def costD (many d : Int) (k : Nat) : Int := if d ≤ (k : Int) then d else (k : Int) + many
def costL (many day : Int) (k : Nat) : Int := if (k : Int) + 1 < day ∧ (k : Int) < many - 1 then (k : Int) + 1 else day - 1 + many
def upK (k : Nat) : Int := (k : Int) + 1
def ch1 (vs : List (Int × Int)) : Bool := vs.all okB && decide ((qsOf vs).sum = 1)
def mnD (d many : Int) : Int := if many < d then many else d
def daysB (many : Int) (v : Rat) (qs : List Rat) (d : Int) : Bool := !decide (v * ((mnD d many : Int) : Rat) < wsum (costD many d) 0 qs)
def seasB (many : Int) (v : Rat) (qs : List Rat) (day : Int) : Bool := !decide (wsum (costL many day) 0 qs < v * wsum upK 0 qs)
def lastD (many : Int) (len : Nat) : Nat := max many.toNat len + 1
def judgeD (many : Int) (v : Rat) (vs : List (Int × Int)) : Bool := decide (1 ≤ vs.length ∧ vs.length ≤ 40) && (ch1 vs && pAll (daysB many v (qsOf vs)) (lastD many vs.length) 1)
def judgeL (many : Int) (v : Rat) (vs : List (Int × Int)) : Bool := decide ((vs.length : Int) = many) && (ch1 vs && pAll (seasB many v (qsOf vs)) (many + 1).toNat 1)
def tab (n : Nat) : Bool := (okB (rateP n) && decide ((rateP n).1 ≤ 10000000000000) && decide ((rateP n).2 ≤ 10000000000000) && decide (0 < (rateP n).1)) && (judgeD n (rateQ n) (dayP n) && judgeL n (rateQ n) (lenP n)) && (decide ((dayP n).length = n) && decide ((lenP n).length = n)) &&
  ((dayP n).all (fun v => decide (v.2 ∣ 6000000000000 * 0 + ((dayP n).map fun v => v.2.natAbs).foldl Nat.lcm 1) && decide (v.1 ≤ v.2)) && (lenP n).all (fun v => decide (v.2 ∣ 6000000000000 * 0 + ((lenP n).map fun v => v.2.natAbs).foldl Nat.lcm 1) && decide (v.1 ≤ v.2)))
  && decide (((dayP n).map fun v => v.2.natAbs).foldl Nat.lcm 1 ≤ 6000000000000) && decide (((lenP n).map fun v => v.2.natAbs).foldl Nat.lcm 1 ≤ 6000000000000) && decide (0 < ((dayP n).map fun v => v.2.natAbs).foldl Nat.lcm 1) && decide (0 < ((lenP n).map fun v => v.2.natAbs).foldl Nat.lcm 1)
theorem tab_ok {n : Int} (h : 1 ≤ n ∧ n ≤ 12) : tab n.toNat = true := by
  have : n = 1 ∨ n = 2 ∨ n = 3 ∨ n = 4 ∨ n = 5 ∨ n = 6 ∨ n = 7 ∨ n = 8 ∨ n = 9 ∨ n = 10 ∨ n = 11 ∨ n = 12 := by omega
  rcases this with rfl | rfl | rfl | rfl | rfl | rfl | rfl | rfl | rfl | rfl | rfl | rfl <;> kernel_rfl
end K57
set_option Elab.async false
set_option linter.all false
set_option maxRecDepth 100000
set_option maxHeartbeats 1000000
namespace K57
open PySem SE
theorem times_ok {n : Int} (h : 1 ≤ n ∧ n ≤ 12) (x : Bool) : F_check_times [.va x (.int n)] = .ok (.va .none) [.va x (.int n)] := by
  simp [F_check_times, h.1, h.2]
theorem chances_ok {T : Nat} {vs : List (Int × Int)} (R : RowOk T vs) (x : Bool) : F_are_chances [.va x (tupP vs)] = .ok (.va (.bool (ch1 vs))) [.va x (tupP vs)] := by
  unfold ch1
  have hlc : dLc [1, 2] (iSeq (dVar 0)) (.v 2) tYes F_are_chances_c1 [.va false (tupP vs), .un, .un] = .ok (.nw (.list (vs.map fun v => .bool (okB v)))) [.va false (tupP vs), .un, .un] := by
    rw [lc_map prI (fun v => PyData.bool (okB v)) vs]
    · simp
    · rfl
    · intro v hv
      have hb := RowOk.abs R hv
      have e := is_ratio_v hb.1 hb.2 false
      simp only [prI] at e
      unfold okB
      by_cases hc : (decide (1 ≤ v.2) && decide (Int.gcd v.1 v.2 = 1)) = true
      · rw [hc] at e
        simp [F_are_chances_c1, e, hc]
      · rw [Bool.not_eq_true] at hc
        rw [hc] at e
        simp [F_are_chances_c1, e, hc]
    · have := R.len; unfold lim; omega
  cases ha : vs.all okB with
  | false => simp [F_are_chances, hlc, ha]
  | true =>
    have hk := all_ok ha
    have hs := row_sum R
    have su := (summed_q (T := T) (K := 2 * T) R.pos.1 (by have := R.pos; omega) (by omega) (R.frs hk) (by omega) false false).1
    rw [← prQs hk] at su
    have fe := fEq_q (qsOf vs).sum 1
    rw [prQ_one] at fe
    generalize (qsOf vs).sum = S at *
    simp only [prQ, prI] at *
    simp [F_are_chances, hlc, ha, su, fe, lim]
theorem lsum_loop {T : Nat} (hT : 0 < T ∧ T ≤ 100000000000000) (s0 : Sl) : ∀ (vs : List (Int × Int)) (s : Rat) (M : Int) (s3 s4 : Sl), (∀ v ∈ vs, (1 ≤ v.2 ∧ v.2 ≤ 10000000000000000) ∧ -(2 * v.2) ≤ v.1 ∧ v.1 ≤ 2 * v.2) → (∀ v ∈ vs, okV v → Fr T (2 * (T : Int)) (toQ v)) → Fr T M s → 0 ≤ M → M + 2 * (T : Int) * vs.length < 1000000000000000000 → Stb s3 → Stb s4 →
    ∃ t3 t4, (vs.all okB = true ∧ forL (.t [.v 2, .v 3]) F__law_are_chances_l1 (vs.map prI) [s0, .va false (prQ s), s3, s4] = .nx [s0, .va false (prQ (s + (qsOf vs).sum)), t3, t4]) ∨
      (vs.all okB = false ∧ ∃ t2, forL (.t [.v 2, .v 3]) F__law_are_chances_l1 (vs.map prI) [s0, .va false (prQ s), s3, s4] = .rt (.va (.bool false)) [s0, t2, t3, t4])
  | [], s, M, s3, s4, hb, hf, hs, h0, hM, k3, k4 => ⟨s3, s4, .inl ⟨rfl, by rw [show (qsOf []).sum = 0 from rfl, Rat.add_zero]; rfl⟩⟩
  | v :: vs, s, M, s3, s4, hb, hf, hs, h0, hM, k3, k4 => by
    obtain ⟨⟨b1, b2⟩, b3, b4⟩ := hb v List.mem_cons_self
    rw [List.map_cons, forL_c, List.all_cons]
    have e : 2 * (T : Int) * ((v :: vs).length : Int) = 2 * (T : Int) * vs.length + 2 * T := by rw [List.length_cons, Int.natCast_add, Int.mul_add]; simp
    have e0 : 0 ≤ 2 * (T : Int) * (vs.length : Int) := Int.mul_nonneg (by omega) (by omega)
    by_cases hv : okB v = true
    · have hv' := okB_iff.mp hv
      have fv := hf v List.mem_cons_self hv'
      have e1 := fractionZ_ok (a := v.1) (b := v.2) (by omega) (Nat.lt_trans (by omega) pwA) (Nat.lt_trans (by omega) pwA) false false
      rw [fr_selfV hv'] at e1
      have e2 := fNe_pr v v
      have ad := lplus_q (hs.bq (by omega) (by omega)) (fv.bq (by omega) (by omega)) false false
      rw [← prI_q hv'] at ad
      obtain ⟨t3, t4, ih⟩ := lsum_loop hT s0 vs (s + toQ v) (M + 2 * T) (.va false (.int v.1)) (.va false (.int v.2)) (fun w hw => hb w (List.mem_cons_of_mem _ hw)) (fun w hw => hf w (List.mem_cons_of_mem _ hw)) (hs.add fv) (by omega) (by omega) (stb_va _) (stb_va _)
      have c1 : ¬ v.2 < 1 := by omega
      have c2 : ¬ v.1 < 0 := by have := hv'.2.1; omega
      have es : s + (qsOf (v :: vs)).sum = s + toQ v + (qsOf vs).sum := by unfold qsOf; rw [List.map_cons, sumQ_cons, Rat.add_assoc]
      rw [hv, Bool.true_and, es]
      refine ⟨t3, t4, ?_⟩
      generalize s + toQ v = V at *
      simp only [prQ, prI] at *
      rcases ih with ⟨i1, i2⟩ | ⟨i1, t2, i2⟩
      · refine .inl ⟨i1, ?_⟩
        rw [← i2]
        simp [storeK_stb k3, storeK_stb k4, F__law_are_chances_l1, e1, e2, c1, c2, ad, lim]
      · refine .inr ⟨i1, t2, ?_⟩
        rw [← i2]
        simp [storeK_stb k3, storeK_stb k4, F__law_are_chances_l1, e1, e2, c1, c2, ad, lim]
    · have hv2 : okB v = false := by simpa using hv
      rw [hv2, Bool.false_and]
      refine ⟨.va false (.int v.1), .va false (.int v.2), .inr ⟨rfl, .va false (prQ s), ?_⟩⟩
      have c1 : ¬ v.2 < 1 := by omega
      by_cases c2 : v.1 < 0
      · simp [storeK_stb k3, storeK_stb k4, F__law_are_chances_l1, c1, c2, lim]
      · have e1 := fractionZ_ok (a := v.1) (b := v.2) (by omega) (Nat.lt_trans (by omega) pwA) (Nat.lt_trans (by omega) pwA) false false
        have hne : frI v.1 v.2 ≠ v := fun z => hv (okB_iff.mpr ((fr_selfV_iff (by omega) (by omega)).mp z))
        have e2 := fNe_pr (frI v.1 v.2) v
        generalize frI v.1 v.2 = F at *
        simp only [prI] at e1 e2
        simp [storeK_stb k3, storeK_stb k4, F__law_are_chances_l1, e1, e2, c1, c2, lim, hne]
theorem lchances_ok {T : Nat} {vs : List (Int × Int)} (R : RowOk T vs) (x : Bool) : F__law_are_chances [.va x (tupP vs)] = .ok (.va (.bool (ch1 vs))) [.va x (tupP vs)] := by
  unfold ch1
  have hs := row_sum R
  have hq : (qsOf vs).length = vs.length := by unfold qsOf; rw [List.length_map]
  rw [hq] at hs
  obtain ⟨t3, t4, h⟩ := lsum_loop R.pos (.va false (tupP vs)) vs 0 0 .un .un R.bd (fun v hv hk => R.fr hv hk) (Fr.zero R.pos.1 (Int.le_refl 0)) (Int.le_refl 0) (by omega) trivial trivial
  rw [Rat.zero_add, prQ_zero] at h
  have fe := fEq_q (qsOf vs).sum 1
  rw [prQ_one] at fe
  generalize (qsOf vs).sum = S at *
  simp only [prQ, prI] at *
  rcases h with ⟨i1, i2⟩ | ⟨i1, t2, i2⟩
  · simp [F__law_are_chances, i1, i2, fe, lim]
  · simp [F__law_are_chances, i1, i2, lim]
structure QOk (T : Nat) (many : Int) (qs : List Rat) : Prop where
  pos : 0 < T ∧ T ≤ 100000000000000
  fr : ∀ q ∈ qs, Fr T (2 * (T : Int)) q
  m : 1 ≤ many ∧ many ≤ 12
  len : qs.length ≤ 40
theorem costD_bd {many d : Int} {k : Nat} (h : 1 ≤ many ∧ many ≤ 12) (hd : 0 ≤ d ∧ d ≤ 60) (hk : k < 40) : -60 ≤ costD many d k ∧ costD many d k ≤ 60 := by
  unfold costD
  split <;> omega
theorem costL_bd {many day : Int} {k : Nat} (h : 1 ≤ many ∧ many ≤ 12) (hd : 1 ≤ day ∧ day ≤ 40) (hk : k < 40) : -60 ≤ costL many day k ∧ costL many day k ≤ 60 := by
  unfold costL
  split <;> omega
theorem upK_bd {k : Nat} (hk : k < 40) : -60 ≤ upK k ∧ upK k ≤ 60 := by
  unfold upK
  omega
theorem qok_sum {T : Nat} {many : Int} {qs : List Rat} (Q : QOk T many qs) : 120 * (T : Int) * (qs.length : Int) ≤ 480000000000000000 := by
  have hl := Q.len
  have hp := Q.pos
  have h3 : 120 * (T : Int) ≤ 12000000000000000 := by omega
  have := mul_small (a := 120 * (T : Int)) (b := (qs.length : Int)) (B := 40) (by omega) h3 (by omega) (by omega)
  omega
theorem wsum_frN {T : Nat} {K L : Int} (h0 : 0 < T) {f : Nat → Int} : ∀ (qs : List Rat) (k : Nat), (∀ q ∈ qs, Fr T K q) → (∀ i, k ≤ i → i < k + qs.length → -L ≤ f i ∧ f i ≤ L) → Fr T (L * K * qs.length) (wsum f k qs)
  | [], k, h, hf => by unfold wsum; simpa using Fr.zero h0 (Int.le_refl 0)
  | q :: qs, k, h, hf => by
    have := ((h q List.mem_cons_self).mulI (hf k (Nat.le_refl _) (by simp))).add (wsum_frN h0 qs (k + 1) (fun x hx => h x (List.mem_cons_of_mem _ hx)) fun i a b => hf i (by omega) (by rw [List.length_cons]; omega))
    unfold wsum
    refine this.mono ?_
    rw [List.length_cons, Int.natCast_add, Int.mul_add]
    simp
    omega
theorem mean_bq {T : Nat} {many : Int} {qs : List Rat} (Q : QOk T many qs) {f : Nat → Int} (hf : ∀ i, i < 40 → -60 ≤ f i ∧ f i ≤ 60) : Bq (wsum f 0 qs) := by
  have hs := qok_sum Q
  have hl := Q.len
  refine (wsum_frN Q.pos.1 qs 0 Q.fr (L := 60) fun i _ hi => hf i (by omega)).bq (by have := Q.pos; omega) ?_
  rw [show 60 * (2 * (T : Int)) = 120 * (T : Int) by omega]
  omega
/-- the mean cost of a season: a generic walk -/
theorem cost_loop {T : Nat} {many d : Int} (hT : 0 < T ∧ T ≤ 100000000000000) (h1 : 1 ≤ many ∧ many ≤ 12) (hd : 0 ≤ d ∧ d ≤ 60) (s1 : Sl) : ∀ (qs : List Rat) (k : Nat) (s : Rat) (M : Int) (s4 s5 s6 : Sl), k + qs.length ≤ 40 → (∀ q ∈ qs, Fr T (2 * (T : Int)) q) → Fr T M s → 0 ≤ M → M + 120 * (T : Int) * qs.length < 1000000000000000000 → Stb s4 → Stb s5 → Stb s6 →
    ∃ t4 t5 t6, forL (.t [.v 4, .v 5]) F_mean_cost_l1 (enD k (qs.map prQ)) [.va false (.int many), s1, .va false (.int d), .va false (prQ s), s4, s5, s6] =
      .nx [.va false (.int many), s1, .va false (.int d), .va false (prQ (s + wsum (costD many d) k qs)), t4, t5, t6]
  | [], k, s, M, s4, s5, s6, hk, hf, hs, h0, hM, k4, k5, k6 => ⟨s4, s5, s6, by unfold wsum; rw [Rat.add_zero]; rfl⟩
  | q :: qs, k, s, M, s4, s5, s6, hk, hf, hs, h0, hM, k4, k5, k6 => by
    have e : 120 * (T : Int) * ((q :: qs).length : Int) = 120 * (T : Int) * qs.length + 120 * T := by rw [List.length_cons, Int.natCast_add, Int.mul_add]; simp
    have e0 : 0 ≤ 120 * (T : Int) * (qs.length : Int) := Int.mul_nonneg (by omega) (by omega)
    have hk2 : k < 40 := by rw [List.length_cons] at hk; omega
    obtain ⟨w1, _, w3, _, w5⟩ := wstep (hf q List.mem_cons_self) (costD_bd (k := k) h1 hd hk2) hs (by omega) (by omega) h0 (by decide) (by decide) (by omega)
    have hs : costD many d k = if d ≤ (k : Int) then d else (k : Int) + many := rfl
    obtain ⟨t4, t5, t6, ih⟩ := cost_loop hT h1 hd s1 qs (k + 1) (s + ((costD many d k : Int) : Rat) * q) (M + 60 * (2 * T)) (.va false (.int (k : Int))) (.va false (prQ q)) (.va false (.int (costD many d k))) (by rw [List.length_cons] at hk; omega) (fun x hx => hf x (List.mem_cons_of_mem _ hx)) w5 (by omega) (by omega) (stb_va _) (stb_va _) (stb_va _)
    refine ⟨t4, t5, t6, ?_⟩
    rw [List.map_cons]
    unfold enD wsum
    rw [← Rat.add_assoc, forL_c, ← ih]
    generalize s + ((costD many d k : Int) : Rat) * q = V1 at *
    generalize ((costD many d k : Int) : Rat) * q = V2 at *
    by_cases hc : d ≤ (k : Int)
    · rw [if_pos hc] at hs
      rw [hs] at w1 ⊢
      simp only [prQ, prI] at *
      simp [storeK_stb k4, storeK_stb k5, storeK_stb k6, F_mean_cost_l1, hc, w1, w3, lim]
    · rw [if_neg hc] at hs
      rw [hs] at w1 ⊢
      simp only [prQ, prI] at *
      simp [storeK_stb k4, storeK_stb k5, storeK_stb k6, F_mean_cost_l1, hc, w1, w3, lim]
theorem mean_ok {T : Nat} {many d : Int} {qs : List Rat} (Q : QOk T many qs) (hd : 0 ≤ d ∧ d ≤ 60) (x y z : Bool) :
    F_mean_cost [.va x (.int many), .va y (.tuple (qs.map prQ)), .va z (.int d)] = .ok (.va (prQ (wsum (costD many d) 0 qs))) [.va x (.int many), .va y (.tuple (qs.map prQ)), .va z (.int d)] := by
  have hs := qok_sum Q
  obtain ⟨t4, t5, t6, h⟩ := cost_loop Q.pos Q.m hd (.va false (.tuple (qs.map prQ))) qs 0 0 0 .un .un .un (by have := Q.len; omega) Q.fr (Fr.zero Q.pos.1 (Int.le_refl 0)) (Int.le_refl 0) (by omega) trivial trivial trivial
  rw [Rat.zero_add, prQ_zero, ← enumD_eq] at h
  generalize wsum (costD many d) 0 qs = V at *
  simp [F_mean_cost, lim, h]
theorem day_loop {T : Nat} {many day : Int} {q0 : List D} (hT : 0 < T ∧ T ≤ 100000000000000) (h1 : 1 ≤ many ∧ many ≤ 12) (hd : 1 ≤ day ∧ day ≤ 40) (hl : (q0.length : Int) = many) : ∀ (qs : List Rat) (k : Nat) (s : Rat) (M : Int) (s4 s5 s6 : Sl), k + qs.length ≤ 40 → (∀ q ∈ qs, Fr T (2 * (T : Int)) q) → Fr T M s → 0 ≤ M → M + 120 * (T : Int) * qs.length < 1000000000000000000 → Stb s4 → Stb s5 → Stb s6 →
    ∃ t4 t5 t6, forL (.t [.v 4, .v 5]) F_day_cost_l1 (enD k (qs.map prQ)) [.va false (.int many), .va false (.tuple q0), .va false (.int day), .va false (prQ s), s4, s5, s6] =
      .nx [.va false (.int many), .va false (.tuple q0), .va false (.int day), .va false (prQ (s + wsum (costL many day) k qs)), t4, t5, t6]
  | [], k, s, M, s4, s5, s6, hk, hf, hs, h0, hM, k4, k5, k6 => ⟨s4, s5, s6, by unfold wsum; rw [Rat.add_zero]; rfl⟩
  | q :: qs, k, s, M, s4, s5, s6, hk, hf, hs, h0, hM, k4, k5, k6 => by
    have e : 120 * (T : Int) * ((q :: qs).length : Int) = 120 * (T : Int) * qs.length + 120 * T := by rw [List.length_cons, Int.natCast_add, Int.mul_add]; simp
    have e0 : 0 ≤ 120 * (T : Int) * (qs.length : Int) := Int.mul_nonneg (by omega) (by omega)
    have hk2 : k < 40 := by rw [List.length_cons] at hk; omega
    obtain ⟨w1, _, w3, _, w5⟩ := wstep (hf q List.mem_cons_self) (costL_bd (k := k) h1 hd hk2) hs (by omega) (by omega) h0 (by decide) (by decide) (by omega)
    have hs : costL many day k = if (k : Int) + 1 < day ∧ (k : Int) < many - 1 then (k : Int) + 1 else day - 1 + many := rfl
    obtain ⟨t4, t5, t6, ih⟩ := day_loop hT h1 hd hl qs (k + 1) (s + ((costL many day k : Int) : Rat) * q) (M + 60 * (2 * T)) (.va false (.int (k : Int))) (.va false (prQ q)) (.va false (.int (costL many day k))) (by rw [List.length_cons] at hk; omega) (fun x hx => hf x (List.mem_cons_of_mem _ hx)) w5 (by omega) (by omega) (stb_va _) (stb_va _) (stb_va _)
    refine ⟨t4, t5, t6, ?_⟩
    rw [List.map_cons]
    unfold enD wsum
    rw [← Rat.add_assoc, forL_c, ← ih]
    generalize s + ((costL many day k : Int) : Rat) * q = V1 at *
    generalize ((costL many day k : Int) : Rat) * q = V2 at *
    by_cases hc : (k : Int) + 1 < day
    · by_cases hc2 : (k : Int) + 1 < many
      · rw [if_pos ⟨hc, by omega⟩] at hs
        rw [hs] at w1 ⊢
        simp only [prQ, prI] at *
        simp [storeK_stb k4, storeK_stb k5, storeK_stb k6, F_day_cost_l1, hc, hl, hc2, w1, w3, lim]
      · rw [if_neg (by omega)] at hs
        rw [hs] at w1 ⊢
        simp only [prQ, prI] at *
        simp [storeK_stb k4, storeK_stb k5, storeK_stb k6, F_day_cost_l1, hc, hl, hc2, w1, w3, lim]
    · rw [if_neg (by omega)] at hs
      rw [hs] at w1 ⊢
      simp only [prQ, prI] at *
      simp [storeK_stb k4, storeK_stb k5, storeK_stb k6, F_day_cost_l1, hc, w1, w3, lim]
theorem day_ok {T : Nat} {many day : Int} {qs : List Rat} (Q : QOk T many qs) (hl : (qs.length : Int) = many) (hd : 1 ≤ day ∧ day ≤ 40) (x y z : Bool) :
    F_day_cost [.va x (.int many), .va y (.tuple (qs.map prQ)), .va z (.int day)] = .ok (.va (prQ (wsum (costL many day) 0 qs))) [.va x (.int many), .va y (.tuple (qs.map prQ)), .va z (.int day)] := by
  have hs := qok_sum Q
  obtain ⟨t4, t5, t6, h⟩ := day_loop (q0 := qs.map prQ) Q.pos Q.m hd (by rw [List.length_map]; exact hl) qs 0 0 0 .un .un .un (by have := Q.len; omega) Q.fr (Fr.zero Q.pos.1 (Int.le_refl 0)) (Int.le_refl 0) (by omega) trivial trivial trivial
  rw [Rat.zero_add, prQ_zero, ← enumD_eq] at h
  generalize wsum (costL many day) 0 qs = V at *
  simp [F_day_cost, lim, h]
theorem least_loop {T : Nat} (hT : 0 < T ∧ T ≤ 100000000000000) (s0 s1 s2 s6 s7 s8 : Sl) : ∀ (qs : List Rat) (k : Nat) (s : Rat) (M : Int) (s4 s5 : Sl), k + qs.length ≤ 40 → (∀ q ∈ qs, Fr T (2 * (T : Int)) q) → Fr T M s → 0 ≤ M → M + 120 * (T : Int) * qs.length < 1000000000000000000 → Stb s4 → Stb s5 →
    ∃ t4 t5, forL (.t [.v 4, .v 5]) F_judge_seasons_l1 (enD k (qs.map prQ)) [s0, s1, s2, .va false (prQ s), s4, s5, s6, s7, s8] =
      .nx [s0, s1, s2, .va false (prQ (s + wsum upK k qs)), t4, t5, s6, s7, s8]
  | [], k, s, M, s4, s5, hk, hf, hs, h0, hM, k4, k5 => ⟨s4, s5, by unfold wsum; rw [Rat.add_zero]; rfl⟩
  | q :: qs, k, s, M, s4, s5, hk, hf, hs, h0, hM, k4, k5 => by
    have e : 120 * (T : Int) * ((q :: qs).length : Int) = 120 * (T : Int) * qs.length + 120 * T := by rw [List.length_cons, Int.natCast_add, Int.mul_add]; simp
    have e0 : 0 ≤ 120 * (T : Int) * (qs.length : Int) := Int.mul_nonneg (by omega) (by omega)
    have hk2 : k < 40 := by rw [List.length_cons] at hk; omega
    obtain ⟨w1, _, w3, _, w5⟩ := wstep (hf q List.mem_cons_self) (upK_bd hk2) hs (by omega) (by omega) h0 (by decide) (by decide) (by omega)
    have hs : upK k = (k : Int) + 1 := rfl
    obtain ⟨t4, t5, ih⟩ := least_loop hT s0 s1 s2 s6 s7 s8 qs (k + 1) (s + ((upK k : Int) : Rat) * q) (M + 60 * (2 * T)) (.va false (.int (k : Int))) (.va false (prQ q)) (by rw [List.length_cons] at hk; omega) (fun x hx => hf x (List.mem_cons_of_mem _ hx)) w5 (by omega) (by omega) (stb_va _) (stb_va _)
    refine ⟨t4, t5, ?_⟩
    rw [List.map_cons]
    unfold enD wsum
    rw [← Rat.add_assoc, forL_c, ← ih]
    generalize s + ((upK k : Int) : Rat) * q = V1 at *
    generalize ((upK k : Int) : Rat) * q = V2 at *
    rw [hs] at w1
    simp only [prQ, prI] at *
    simp [storeK_stb k4, storeK_stb k5, F_judge_seasons_l1, w1, w3, lim]
theorem above_part2 {S m : Rat} {p : Int} (hm : Bq m) (hS : Bq S) (hp : 0 ≤ p ∧ p ≤ 1000) : F_above [.va false (prQ m), .va false (prI (S.num * p, (S.den : Int)))] = .ok (.va (.bool (decide (S * (p : Rat) < m)))) [.va false (prQ m), .va false (prI (S.num * p, (S.den : Int)))] := by
  rw [above_i (.inl (by have := hm.1; omega)) (.inr (by have := hm.2; omega))]
  congr 4
  have e : S * (p : Rat) = ((S.num * p : Int) : Rat) / ((S.den : Int) : Rat) := by
    have e1 := rat_nd S
    have e2 := den_ne S
    rw [Rat.intCast_mul]
    generalize (S.num : Rat) = a at *
    generalize ((S.den : Int) : Rat) = b at *
    grind
  have e2 := rat_nd m
  rw [e]
  apply propext
  have key := lt_div (a := S.num * p) (b := (S.den : Int)) (c := m.num) (d := (m.den : Int)) (by have := S.den_pos; omega) (by have := m.den_pos; omega)
  rw [← e2] at key
  rw [key]
end K57
set_option Elab.async false
set_option linter.all false
set_option maxRecDepth 100000
set_option maxHeartbeats 1000000
namespace K57
open PySem SE
theorem qok_of {T : Nat} {many : Int} {vs : List (Int × Int)} (R : RowOk T vs) (h1 : 1 ≤ many ∧ many ≤ 12) (hl : vs.length ≤ 40) (hc : ch1 vs = true) : QOk T many (qsOf vs) ∧ (qsOf vs).length = vs.length ∧ vs.map prI = (qsOf vs).map prQ := by
  unfold ch1 at hc
  rw [Bool.and_eq_true] at hc
  have hk := all_ok hc.1
  have hl2 : (qsOf vs).length = vs.length := by unfold qsOf; rw [List.length_map]
  exact ⟨⟨R.pos, R.frs hk, h1, by omega⟩, hl2, prQs hk⟩
theorem mnD_le {d many : Int} (h1 : 1 ≤ many ∧ many ≤ 12) (h2 : 0 ≤ d) : 0 ≤ mnD d many ∧ mnD d many ≤ 12 := by
  unfold mnD
  split <;> omega
theorem days_loop {T : Nat} {many : Int} {v : Rat} {qs : List Rat} (Q : QOk T many qs) (hv : Bq v) (s3 : Sl) : ∀ (n : Nat) (p : Int) (s4 : Sl), 0 ≤ p → p + n ≤ 60 → Stb s4 →
    ∃ t4, (pAll (daysB many v qs) n p = true ∧ forL (.v 4) F_judge_days_l1 (rng p n) [.va false (.int many), .va false (prQ v), .va false (.tuple (qs.map prQ)), s3, s4] = .nx [.va false (.int many), .va false (prQ v), .va false (.tuple (qs.map prQ)), s3, t4]) ∨
      (pAll (daysB many v qs) n p = false ∧ forL (.v 4) F_judge_days_l1 (rng p n) [.va false (.int many), .va false (prQ v), .va false (.tuple (qs.map prQ)), s3, s4] = .rt (.va (.bool false)) [.va false (.int many), .va false (prQ v), .va false (.tuple (qs.map prQ)), s3, t4])
  | 0, p, s4, hp, hn, k4 => ⟨s4, .inl ⟨rfl, rfl⟩⟩
  | n + 1, p, s4, hp, hn, k4 => by
    have me := mean_ok (d := p) Q (by omega) false false false
    have mb := mean_bq Q (f := costD many p) fun i hi => costD_bd Q.m (by omega) hi
    have hm := mnD_le (d := p) Q.m hp
    have ti := times_q hv (bq_int (c := mnD p many) (by omega)) false false
    rw [prQ_int] at ti
    have le := less_qo (p := v * ((mnD p many : Int) : Rat)) (.inr mb) false false
    have hw : daysB many v qs p = !decide (v * ((mnD p many : Int) : Rat) < wsum (costD many p) 0 qs) := rfl
    have hmn : mnD p many = if many < p then many else p := rfl
    obtain ⟨u4, ih⟩ := days_loop Q hv s3 n (p + 1) (.va false (.int p)) (by omega) (by omega) (stb_va _)
    rw [rng_succ, forL_c]
    unfold pAll
    rw [hw]
    generalize wsum (costD many p) 0 qs = V at *
    generalize v * ((mnD p many : Int) : Rat) = U at *
    generalize qs.map prQ = Q0 at *
    rw [hmn] at ti
    by_cases hc : U < V
    · simp only [hc, decide_true] at le ⊢
      refine ⟨.va false (.int p), .inr ⟨rfl, ?_⟩⟩
      by_cases hd : many < p
      · rw [if_pos hd] at ti
        simp only [prQ, prI] at *
        simp [storeK_stb k4, F_judge_days_l1, hd, ti, me, le, lim]
      · rw [if_neg hd] at ti
        simp only [prQ, prI] at *
        simp [storeK_stb k4, F_judge_days_l1, hd, ti, me, le, lim]
    · simp only [hc, decide_false] at le ⊢
      refine ⟨u4, ?_⟩
      rcases ih with ⟨i1, i2⟩ | ⟨i1, i2⟩
      · refine .inl ⟨by simp [i1], ?_⟩
        rw [← i2]
        by_cases hd : many < p
        · rw [if_pos hd] at ti
          simp only [prQ, prI] at *
          simp [storeK_stb k4, F_judge_days_l1, hd, ti, me, le, lim]
        · rw [if_neg hd] at ti
          simp only [prQ, prI] at *
          simp [storeK_stb k4, F_judge_days_l1, hd, ti, me, le, lim]
      · refine .inr ⟨by simp [i1], ?_⟩
        rw [← i2]
        by_cases hd : many < p
        · rw [if_pos hd] at ti
          simp only [prQ, prI] at *
          simp [storeK_stb k4, F_judge_days_l1, hd, ti, me, le, lim]
        · rw [if_neg hd] at ti
          simp only [prQ, prI] at *
          simp [storeK_stb k4, F_judge_days_l1, hd, ti, me, le, lim]
theorem judge_days_ok {T : Nat} {many : Int} {v : Rat} {vs : List (Int × Int)} (R : RowOk T vs) (h1 : 1 ≤ many ∧ many ≤ 12) (hv : Bq v) (x y z : Bool) :
    F_judge_days [.va x (.int many), .va y (prQ v), .va z (tupP vs)] = .ok (.va (.bool (judgeD many v vs))) [.va x (.int many), .va y (prQ v), .va z (tupP vs)] := by
  have b := times_ok h1 false
  have ir := is_ratio_q hv false
  have ch := chances_ok R false
  have rl := R.len
  unfold judgeD
  by_cases hl1 : (1 : Int) ≤ (vs.length : Int)
  · by_cases hl2 : (vs.length : Int) ≤ 40
    · rw [decide_eq_true (show 1 ≤ vs.length ∧ vs.length ≤ 40 by omega), Bool.true_and]
      cases hc : ch1 vs with
      | false =>
        rw [hc] at ch
        simp only [prQ, prI] at *
        simp [F_judge_days, b, ir, ch, hl1, hl2]
      | true =>
        rw [hc] at ch
        obtain ⟨Q, ql, qe⟩ := qok_of R h1 (by omega) hc
        obtain ⟨mx, hmx⟩ : ∃ mx : Int, mx = if many < (vs.length : Int) then (vs.length : Int) else many := ⟨_, rfl⟩
        have hmx2 : mx + 1 = (lastD many vs.length : Int) := by
          unfold lastD
          split at hmx <;> omega
        obtain ⟨t4, lo⟩ := days_loop Q hv (.va false (.int (mx + 1))) (lastD many vs.length) 1 .un (by decide) (by omega) trivial
        have hr : (mx + 1 + 1 - 1).toNat = lastD many vs.length := by omega
        have hb : mx + 1 + 1 < 4611686018427387904 ∧ -4611686018427387904 ≤ mx + 1 + 1 := by omega
        rw [← qe] at lo
        rw [Bool.true_and]
        simp only [prQ, prI] at *
        rcases lo with ⟨i1, i2⟩ | ⟨i1, i2⟩
        · simp [F_judge_days, b, ir, ch, hl1, hl2, ← hmx, x_rng2, hb, show (mx + 1).toNat = lastD many vs.length by omega, i2, i1]
        · simp [F_judge_days, b, ir, ch, hl1, hl2, ← hmx, x_rng2, hb, show (mx + 1).toNat = lastD many vs.length by omega, i2, i1]
    · rw [decide_eq_false (show ¬ (1 ≤ vs.length ∧ vs.length ≤ 40) by omega)]
      simp only [prQ, prI] at *
      simp [F_judge_days, b, ir, hl1, hl2]
  · rw [decide_eq_false (show ¬ (1 ≤ vs.length ∧ vs.length ≤ 40) by omega)]
    simp only [prQ, prI] at *
    simp [F_judge_days, b, ir, hl1]
theorem lcost_loop {T : Nat} {many d : Int} {qs : List Rat} (hT : 0 < T ∧ T ≤ 100000000000000) (h1 : 1 ≤ many ∧ many ≤ 12) (hd : 0 ≤ d ∧ d ≤ 60) (hl : qs.length ≤ 40) (hf : ∀ q ∈ qs, Fr T (2 * (T : Int)) q) (s1 : Sl) : ∀ (rest pre : List Rat) (s : Rat) (M : Int) (s5 : Sl), pre ++ rest = qs → Fr T M s → 0 ≤ M → M + 120 * (T : Int) * rest.length < 1000000000000000000 → Stb s5 →
    ∃ t5, Stb t5 ∧ forL (.v 5) F__law_days_fit_l1 (rng (pre.length : Int) rest.length) [.va false (.int many), s1, .va false (.tuple (qs.map prQ)), .va false (.int d), .va false (prQ s), s5] =
      .nx [.va false (.int many), s1, .va false (.tuple (qs.map prQ)), .va false (.int d), .va false (prQ (s + wsum (costD many d) pre.length rest)), t5]
  | [], pre, s, M, s5, hp, hs, h0, hM, k5 => ⟨s5, k5, by unfold wsum; rw [Rat.add_zero]; rfl⟩
  | q :: rest, pre, s, M, s5, hp, hs, h0, hM, k5 => by
    have e : 120 * (T : Int) * ((q :: rest).length : Int) = 120 * (T : Int) * rest.length + 120 * T := by rw [List.length_cons, Int.natCast_add, Int.mul_add]; simp
    have e0 : 0 ≤ 120 * (T : Int) * (rest.length : Int) := Int.mul_nonneg (by omega) (by omega)
    have hq := hf q (by rw [← hp]; simp)
    have hlp : pre.length < qs.length := by rw [← hp]; simp
    obtain ⟨_, w2, _, w4, w5⟩ := wstep hq (costD_bd (k := pre.length) h1 hd (by omega)) hs (by omega) (by omega) h0 (by decide) (by decide) (by omega)
    obtain ⟨t5, j5, ih⟩ := lcost_loop hT h1 hd hl hf s1 rest (pre ++ [q]) (s + ((costD many d pre.length : Int) : Rat) * q) (M + 60 * (2 * T)) (.va false (.int (pre.length : Int))) (by rw [← hp]; simp) w5 (by omega) (by omega) (stb_va _)
    have ix := tixQ hlp
    have eg : qs.getD pre.length 0 = q := by rw [← hp]; simp
    rw [eg] at ix
    rw [List.length_append, List.length_singleton, show ((pre.length + 1 : Nat) : Int) = (pre.length : Int) + 1 by omega] at ih
    refine ⟨t5, j5, ?_⟩
    rw [List.length_cons, rng_succ, forL_c]
    unfold wsum
    rw [← Rat.add_assoc, ← ih]
    have hs : costD many d pre.length = if d ≤ (pre.length : Int) then d else (pre.length : Int) + many := rfl
    generalize s + ((costD many d pre.length : Int) : Rat) * q = V1 at *
    generalize ((costD many d pre.length : Int) : Rat) * q = V2 at *
    generalize qs.map prQ = Q0 at *
    by_cases hc : d ≤ (pre.length : Int)
    · rw [if_pos hc] at hs
      rw [hs] at w2
      simp only [prQ, prI] at *
      simp [storeK_stb k5, F__law_days_fit_l1, ix, hc, w2, w4, lim]
    · rw [if_neg hc] at hs
      rw [hs] at w2
      simp only [prQ, prI] at *
      simp [storeK_stb k5, F__law_days_fit_l1, ix, hc, w2, w4, lim]
theorem ldays_loop {T : Nat} {many : Int} {v : Rat} {qs : List Rat} (Q : QOk T many qs) (hv : Bq v) : ∀ (n : Nat) (p : Int) (s3 s4 s5 : Sl), 0 ≤ p → p + n ≤ 60 → Stb s3 → Stb s4 → Stb s5 →
    ∃ t3 t4 t5, (pAll (daysB many v qs) n p = true ∧ forL (.v 3) F__law_days_fit_l2 (rng p n) [.va false (.int many), .va false (prQ v), .va false (.tuple (qs.map prQ)), s3, s4, s5] = .nx [.va false (.int many), .va false (prQ v), .va false (.tuple (qs.map prQ)), t3, t4, t5]) ∨
      (pAll (daysB many v qs) n p = false ∧ forL (.v 3) F__law_days_fit_l2 (rng p n) [.va false (.int many), .va false (prQ v), .va false (.tuple (qs.map prQ)), s3, s4, s5] = .rt (.va (.bool false)) [.va false (.int many), .va false (prQ v), .va false (.tuple (qs.map prQ)), t3, t4, t5])
  | 0, p, s3, s4, s5, hp, hn, k3, k4, k5 => ⟨s3, s4, s5, .inl ⟨rfl, rfl⟩⟩
  | n + 1, p, s3, s4, s5, hp, hn, k3, k4, k5 => by
    have hs := qok_sum Q
    have ql := Q.len
    obtain ⟨t5, j5, lo⟩ := lcost_loop (d := p) Q.pos Q.m (by omega) Q.len Q.fr (.va false (prQ v)) qs [] 0 0 s5 rfl (Fr.zero Q.pos.1 (Int.le_refl 0)) (Int.le_refl 0) (by omega) k5
    rw [Rat.zero_add, prQ_zero] at lo
    simp only [List.length_nil, Int.natCast_zero] at lo
    have mb := mean_bq Q (f := costD many p) fun i hi => costD_bd Q.m (by omega) hi
    have hm := mnD_le (d := p) Q.m hp
    have ab := above_part2 (p := mnD p many) mb hv (by omega)
    have m1 := fMul_i (i := v.num) (j := mnD p many) (.inr (by omega))
    have hw : daysB many v qs p = !decide (v * ((mnD p many : Int) : Rat) < wsum (costD many p) 0 qs) := rfl
    have hmn : mnD p many = if many < p then many else p := rfl
    obtain ⟨u3, u4, u5, ih⟩ := ldays_loop Q hv n (p + 1) (.va false (.int p)) (.va false (prQ (wsum (costD many p) 0 qs))) t5 (by omega) (by omega) (stb_va _) (stb_va _) j5
    rw [rng_succ, forL_c]
    unfold pAll
    rw [hw]
    generalize wsum (costD many p) 0 qs = V at *
    generalize v * ((mnD p many : Int) : Rat) = U at *
    rw [hmn] at ab m1
    by_cases hc : U < V
    · simp only [hc, decide_true] at ab ⊢
      refine ⟨.va false (.int p), .va false (prQ V), t5, .inr ⟨rfl, ?_⟩⟩
      by_cases hd : many < p
      · rw [if_pos hd] at ab m1
        simp only [prQ, prI] at *
        simp [storeK_stb k3, storeK_stb k4, F__law_days_fit_l2, lim, show (qs.length : Int) < 4611686018427387904 by omega, lo, hd, m1, ab]
      · rw [if_neg hd] at ab m1
        simp only [prQ, prI] at *
        simp [storeK_stb k3, storeK_stb k4, F__law_days_fit_l2, lim, show (qs.length : Int) < 4611686018427387904 by omega, lo, hd, m1, ab]
    · simp only [hc, decide_false] at ab ⊢
      refine ⟨u3, u4, u5, ?_⟩
      rcases ih with ⟨i1, i2⟩ | ⟨i1, i2⟩
      · refine .inl ⟨by simp [i1], ?_⟩
        rw [← i2]
        by_cases hd : many < p
        · rw [if_pos hd] at ab m1
          simp only [prQ, prI] at *
          simp [storeK_stb k3, storeK_stb k4, F__law_days_fit_l2, lim, show (qs.length : Int) < 4611686018427387904 by omega, lo, hd, m1, ab]
        · rw [if_neg hd] at ab m1
          simp only [prQ, prI] at *
          simp [storeK_stb k3, storeK_stb k4, F__law_days_fit_l2, lim, show (qs.length : Int) < 4611686018427387904 by omega, lo, hd, m1, ab]
      · refine .inr ⟨by simp [i1], ?_⟩
        rw [← i2]
        by_cases hd : many < p
        · rw [if_pos hd] at ab m1
          simp only [prQ, prI] at *
          simp [storeK_stb k3, storeK_stb k4, F__law_days_fit_l2, lim, show (qs.length : Int) < 4611686018427387904 by omega, lo, hd, m1, ab]
        · rw [if_neg hd] at ab m1
          simp only [prQ, prI] at *
          simp [storeK_stb k3, storeK_stb k4, F__law_days_fit_l2, lim, show (qs.length : Int) < 4611686018427387904 by omega, lo, hd, m1, ab]
theorem law_days_ok {T : Nat} {many : Int} {v : Rat} {vs : List (Int × Int)} (R : RowOk T vs) (h1 : 1 ≤ many ∧ many ≤ 12) (hv : Bq v) (x y z : Bool) :
    F__law_days_fit [.va x (.int many), .va y (prQ v), .va z (tupP vs)] = .ok (.va (.bool (judgeD many v vs))) [.va x (.int many), .va y (prQ v), .va z (tupP vs)] := by
  have ch := lchances_ok R false
  have rl := R.len
  unfold judgeD
  by_cases hl1 : (1 : Int) ≤ (vs.length : Int)
  · by_cases hl2 : (vs.length : Int) ≤ 40
    · rw [decide_eq_true (show 1 ≤ vs.length ∧ vs.length ≤ 40 by omega), Bool.true_and]
      cases hc : ch1 vs with
      | false =>
        rw [hc] at ch
        simp only [prQ, prI] at *
        simp [F__law_days_fit, ch, hl1, hl2]
      | true =>
        rw [hc] at ch
        obtain ⟨Q, ql, qe⟩ := qok_of R h1 (by omega) hc
        obtain ⟨mx, hmx⟩ : ∃ mx : Int, mx = if many < (vs.length : Int) then (vs.length : Int) else many := ⟨_, rfl⟩
        have hmx2 : mx + 1 = (lastD many vs.length : Int) := by
          unfold lastD
          split at hmx <;> omega
        obtain ⟨t3, t4, t5, lo⟩ := ldays_loop Q hv (lastD many vs.length) 1 .un .un .un (by decide) (by omega) trivial trivial trivial
        have hb : mx + 2 < 4611686018427387904 ∧ -4611686018427387904 ≤ mx + 2 := by omega
        have hr : (mx + 2 - 1).toNat = lastD many vs.length := by omega
        rw [← qe] at lo
        rw [Bool.true_and]
        simp only [prQ, prI] at *
        rcases lo with ⟨i1, i2⟩ | ⟨i1, i2⟩
        · simp [F__law_days_fit, ch, hl1, hl2, ← hmx, x_rng2, hb, hr, i2, i1]
        · simp [F__law_days_fit, ch, hl1, hl2, ← hmx, x_rng2, hb, hr, i2, i1]
    · rw [decide_eq_false (show ¬ (1 ≤ vs.length ∧ vs.length ≤ 40) by omega)]
      simp only [prQ, prI] at *
      simp [F__law_days_fit, hl1, hl2]
  · rw [decide_eq_false (show ¬ (1 ≤ vs.length ∧ vs.length ≤ 40) by omega)]
    simp only [prQ, prI] at *
    simp [F__law_days_fit, hl1]
end K57
set_option Elab.async false
set_option linter.all false
set_option maxRecDepth 100000
set_option maxHeartbeats 1000000
namespace K57
open PySem SE
theorem pAll_all {P : Int → Bool} {n : Nat} {p : Int} : ((List.range n).all fun (j : Nat) => P (p + (j : Int))) = pAll P n p := by
  rw [Bool.eq_iff_iff, List.all_eq_true, pAll_iff]
  constructor
  · intro h i a b
    have := h (i - p).toNat (List.mem_range.mpr (by omega))
    rw [show p + (((i - p).toNat : Nat) : Int) = i by omega] at this
    exact this
  · intro h j hj
    have := List.mem_range.mp hj
    exact h (p + j) (by omega) (by omega)
theorem judge_seasons_ok {T : Nat} {many : Int} {v : Rat} {vs : List (Int × Int)} (R : RowOk T vs) (h1 : 1 ≤ many ∧ many ≤ 12) (hv : Bq v) (x y z : Bool) :
    F_judge_seasons [.va x (.int many), .va y (prQ v), .va z (tupP vs)] = .ok (.va (.bool (judgeL many v vs))) [.va x (.int many), .va y (prQ v), .va z (tupP vs)] := by
  have b := times_ok h1 false
  have ir := is_ratio_q hv false
  have ch := chances_ok R false
  unfold judgeL
  by_cases hl : (vs.length : Int) = many
  · rw [decide_eq_true hl, Bool.true_and]
    cases hc : ch1 vs with
    | false =>
      rw [hc] at ch
      simp only [prQ, prI] at *
      simp [F_judge_seasons, b, ir, ch, hl]
    | true =>
      rw [hc] at ch
      obtain ⟨Q, ql, qe⟩ := qok_of R h1 (by omega) hc
      have hs := qok_sum Q
      obtain ⟨t4, t5, le⟩ := least_loop Q.pos (.va false (.int many)) (.va false (prQ v)) (.va false (.tuple ((qsOf vs).map prQ))) .un .un .un (qsOf vs) 0 0 0 .un .un (by have := Q.len; omega) Q.fr (Fr.zero Q.pos.1 (Int.le_refl 0)) (Int.le_refl 0) (by omega) trivial trivial
      rw [Rat.zero_add, prQ_zero, ← enumD_eq] at le
      have lb := mean_bq Q (f := upK) fun i hi => upK_bd hi
      have tm := times_q hv lb false false
      have hlc : dLc [7, 8] (SE.iRng2 (dC (.int 1)) (dOp fAdd (dVar 0) (dC (.int 2)))) (.v 8) tYes F_judge_seasons_c2 [.va false (.int many), .va false (prQ v), .va false (.tuple ((qsOf vs).map prQ)), .va false (prQ (wsum upK 0 (qsOf vs))), t4, t5, .va false (prQ (v * wsum upK 0 (qsOf vs))), .un, .un] =
          .ok (.nw (.list ((List.range (many + 1).toNat).map fun (j : Nat) => PyData.bool (seasB many v (qsOf vs) (1 + (j : Int)))))) [.va false (.int many), .va false (prQ v), .va false (.tuple ((qsOf vs).map prQ)), .va false (prQ (wsum upK 0 (qsOf vs))), t4, t5, .va false (prQ (v * wsum upK 0 (qsOf vs))), .un, .un] := by
        rw [lc_map (fun (j : Nat) => PyData.int (1 + (j : Int))) (fun (j : Nat) => PyData.bool (seasB many v (qsOf vs) (1 + (j : Int)))) (List.range (many + 1).toNat)]
        · simp [x_rng2, rng, show (many + 2 - 1).toNat = (many + 1).toNat by omega]
          omega
        · rfl
        · intro j hj
          have hj := List.mem_range.mp hj
          have dc := day_ok (day := 1 + (j : Int)) Q (by omega) (by omega) false false false
          have mb := mean_bq Q (f := costL many (1 + (j : Int))) fun i hi => costL_bd h1 (by omega) hi
          have ls := less_qo (q := v * wsum upK 0 (qsOf vs)) (.inl mb) false false
          have hw : seasB many v (qsOf vs) (1 + (j : Int)) = !decide (wsum (costL many (1 + (j : Int))) 0 (qsOf vs) < v * wsum upK 0 (qsOf vs)) := rfl
          rw [hw]
          generalize wsum (costL many (1 + (j : Int))) 0 (qsOf vs) = V at *
          generalize v * wsum upK 0 (qsOf vs) = U at *
          generalize wsum upK 0 (qsOf vs) = U2 at *
          simp only [prQ, prI] at *
          simp [F_judge_seasons_c2, dc, ls]
        · simp; unfold lim; omega
      have pa := pAll_all (P := seasB many v (qsOf vs)) (n := (many + 1).toNat) (p := 1)
      rw [← qe] at le hlc
      rw [Bool.true_and]
      generalize v * wsum upK 0 (qsOf vs) = U at *
      generalize wsum upK 0 (qsOf vs) = U2 at *
      simp only [prQ, prI] at *
      simp [F_judge_seasons, b, ir, ch, hl, le, tm, hlc, pa, lim]
  · rw [decide_eq_false hl]
    simp only [prQ, prI] at *
    simp [F_judge_seasons, b, ir, hl]
theorem lleast_loop {T : Nat} {qs : List Rat} (hT : 0 < T ∧ T ≤ 100000000000000) (hl : qs.length ≤ 40) (hf : ∀ q ∈ qs, Fr T (2 * (T : Int)) q) (s0 s1 s5 s6 s7 : Sl) : ∀ (rest pre : List Rat) (s : Rat) (M : Int) (s4 : Sl), pre ++ rest = qs → Fr T M s → 0 ≤ M → M + 120 * (T : Int) * rest.length < 1000000000000000000 → Stb s4 →
    ∃ t4, Stb t4 ∧ forL (.v 4) F__law_lengths_fit_l1 (rng (pre.length : Int) rest.length) [s0, s1, .va false (.tuple (qs.map prQ)), .va false (prQ s), s4, s5, s6, s7] =
      .nx [s0, s1, .va false (.tuple (qs.map prQ)), .va false (prQ (s + wsum upK pre.length rest)), t4, s5, s6, s7]
  | [], pre, s, M, s4, hp, hs, h0, hM, k4 => ⟨s4, k4, by unfold wsum; rw [Rat.add_zero]; rfl⟩
  | q :: rest, pre, s, M, s4, hp, hs, h0, hM, k4 => by
    have e : 120 * (T : Int) * ((q :: rest).length : Int) = 120 * (T : Int) * rest.length + 120 * T := by rw [List.length_cons, Int.natCast_add, Int.mul_add]; simp
    have e0 : 0 ≤ 120 * (T : Int) * (rest.length : Int) := Int.mul_nonneg (by omega) (by omega)
    have hq := hf q (by rw [← hp]; simp)
    have hlp : pre.length < qs.length := by rw [← hp]; simp
    obtain ⟨_, w2, _, w4, w5⟩ := wstep hq (upK_bd (k := pre.length) (by omega)) hs (by omega) (by omega) h0 (by decide) (by decide) (by omega)
    obtain ⟨t4, j4, ih⟩ := lleast_loop hT hl hf s0 s1 s5 s6 s7 rest (pre ++ [q]) (s + ((upK pre.length : Int) : Rat) * q) (M + 60 * (2 * T)) (.va false (.int (pre.length : Int))) (by rw [← hp]; simp) w5 (by omega) (by omega) (stb_va _)
    have ix := tixQ hlp
    have eg : qs.getD pre.length 0 = q := by rw [← hp]; simp
    rw [eg] at ix
    rw [List.length_append, List.length_singleton, show ((pre.length + 1 : Nat) : Int) = (pre.length : Int) + 1 by omega] at ih
    refine ⟨t4, j4, ?_⟩
    rw [List.length_cons, rng_succ, forL_c]
    unfold wsum
    rw [← Rat.add_assoc, ← ih]
    have hs : upK pre.length = (pre.length : Int) + 1 := rfl
    generalize s + ((upK pre.length : Int) : Rat) * q = V1 at *
    generalize ((upK pre.length : Int) : Rat) * q = V2 at *
    generalize qs.map prQ = Q0 at *
    rw [hs] at w2
    simp only [prQ, prI] at *
    simp [storeK_stb k4, F__law_lengths_fit_l1, ix, w2, w4, lim]
theorem lday_loop {T : Nat} {many day : Int} {qs : List Rat} (hT : 0 < T ∧ T ≤ 100000000000000) (h1 : 1 ≤ many ∧ many ≤ 12) (hd : 1 ≤ day ∧ day ≤ 40) (hl : qs.length ≤ 40) (hf : ∀ q ∈ qs, Fr T (2 * (T : Int)) q) (s1 s3 : Sl) : ∀ (rest pre : List Rat) (s : Rat) (M : Int) (s4 s7 : Sl), pre ++ rest = qs → Fr T M s → 0 ≤ M → M + 120 * (T : Int) * rest.length < 1000000000000000000 → Stb s4 → Stb s7 →
    ∃ t4 t7, (Stb t4 ∧ Stb t7) ∧ forL (.v 4) F__law_lengths_fit_l2 (rng (pre.length : Int) rest.length) [.va false (.int many), s1, .va false (.tuple (qs.map prQ)), s3, s4, .va false (.int day), .va false (prQ s), s7] =
      .nx [.va false (.int many), s1, .va false (.tuple (qs.map prQ)), s3, t4, .va false (.int day), .va false (prQ (s + wsum (costL many day) pre.length rest)), t7]
  | [], pre, s, M, s4, s7, hp, hs, h0, hM, k4, k7 => ⟨s4, s7, ⟨k4, k7⟩, by unfold wsum; rw [Rat.add_zero]; rfl⟩
  | q :: rest, pre, s, M, s4, s7, hp, hs, h0, hM, k4, k7 => by
    have e : 120 * (T : Int) * ((q :: rest).length : Int) = 120 * (T : Int) * rest.length + 120 * T := by rw [List.length_cons, Int.natCast_add, Int.mul_add]; simp
    have e0 : 0 ≤ 120 * (T : Int) * (rest.length : Int) := Int.mul_nonneg (by omega) (by omega)
    have hq := hf q (by rw [← hp]; simp)
    have hlp : pre.length < qs.length := by rw [← hp]; simp
    obtain ⟨_, w2, _, w4, w5⟩ := wstep hq (costL_bd (k := pre.length) h1 hd (by omega)) hs (by omega) (by omega) h0 (by decide) (by decide) (by omega)
    obtain ⟨t4, t7, j4, ih⟩ := lday_loop hT h1 hd hl hf s1 s3 rest (pre ++ [q]) (s + ((costL many day pre.length : Int) : Rat) * q) (M + 60 * (2 * T)) (.va false (.int (pre.length : Int))) (.va false (.int (costL many day pre.length))) (by rw [← hp]; simp) w5 (by omega) (by omega) (stb_va _) (stb_va _)
    have ix := tixQ hlp
    have eg : qs.getD pre.length 0 = q := by rw [← hp]; simp
    rw [eg] at ix
    rw [List.length_append, List.length_singleton, show ((pre.length + 1 : Nat) : Int) = (pre.length : Int) + 1 by omega] at ih
    refine ⟨t4, t7, j4, ?_⟩
    rw [List.length_cons, rng_succ, forL_c]
    unfold wsum
    rw [← Rat.add_assoc, ← ih]
    have hs : costL many day pre.length = if (pre.length : Int) + 1 < day ∧ (pre.length : Int) < many - 1 then (pre.length : Int) + 1 else day - 1 + many := rfl
    generalize s + ((costL many day pre.length : Int) : Rat) * q = V1 at *
    generalize ((costL many day pre.length : Int) : Rat) * q = V2 at *
    generalize qs.map prQ = Q0 at *
    by_cases hc : (pre.length : Int) + 1 < day
    · by_cases hc2 : (pre.length : Int) < many - 1
      · rw [if_pos ⟨hc, hc2⟩] at hs
        rw [hs] at w2 ⊢
        simp only [prQ, prI] at *
        simp [storeK_stb k4, storeK_stb k7, F__law_lengths_fit_l2, hc, hc2, ix, w2, w4, lim]
      · rw [if_neg (fun z => hc2 z.2)] at hs
        rw [hs] at w2 ⊢
        simp only [prQ, prI] at *
        simp [storeK_stb k4, storeK_stb k7, F__law_lengths_fit_l2, hc, hc2, ix, w2, w4, lim]
    · rw [if_neg (fun z => hc z.1)] at hs
      rw [hs] at w2 ⊢
      simp only [prQ, prI] at *
      simp [storeK_stb k4, storeK_stb k7, F__law_lengths_fit_l2, hc, ix, w2, w4, lim]
theorem lseas_loop {T : Nat} {many : Int} {v : Rat} {qs : List Rat} (Q : QOk T many qs) (hql : (qs.length : Int) = many) (hv : Bq v) : ∀ (n : Nat) (p : Int) (s4 s5 s6 s7 : Sl), 1 ≤ p → p + n ≤ 40 → Stb s4 → Stb s5 → Stb s6 → Stb s7 →
    ∃ t4 t5 t6 t7, (pAll (seasB many v qs) n p = true ∧ forL (.v 5) F__law_lengths_fit_l3 (rng p n) [.va false (.int many), .va false (prQ v), .va false (.tuple (qs.map prQ)), .va false (prQ (wsum upK 0 qs)), s4, s5, s6, s7] = .nx [.va false (.int many), .va false (prQ v), .va false (.tuple (qs.map prQ)), .va false (prQ (wsum upK 0 qs)), t4, t5, t6, t7]) ∨
      (pAll (seasB many v qs) n p = false ∧ forL (.v 5) F__law_lengths_fit_l3 (rng p n) [.va false (.int many), .va false (prQ v), .va false (.tuple (qs.map prQ)), .va false (prQ (wsum upK 0 qs)), s4, s5, s6, s7] = .rt (.va (.bool false)) [.va false (.int many), .va false (prQ v), .va false (.tuple (qs.map prQ)), .va false (prQ (wsum upK 0 qs)), t4, t5, t6, t7])
  | 0, p, s4, s5, s6, s7, hp, hn, k4, k5, k6, k7 => ⟨s4, s5, s6, s7, .inl ⟨rfl, rfl⟩⟩
  | n + 1, p, s4, s5, s6, s7, hp, hn, k4, k5, k6, k7 => by
    have hs := qok_sum Q
    have ql := Q.len
    have qm := Q.m
    obtain ⟨t4, t7, ⟨j4, j7⟩, lo⟩ := lday_loop (day := p) Q.pos Q.m (by omega) Q.len Q.fr (.va false (prQ v)) (.va false (prQ (wsum upK 0 qs))) qs [] 0 0 s4 s7 rfl (Fr.zero Q.pos.1 (Int.le_refl 0)) (Int.le_refl 0) (by omega) k4 k7
    rw [Rat.zero_add, prQ_zero] at lo
    simp only [List.length_nil, Int.natCast_zero] at lo
    rw [show qs.length = many.toNat by omega] at lo
    have mb := mean_bq Q (f := costL many p) fun i hi => costL_bd Q.m (by omega) hi
    have lb := mean_bq Q (f := upK) fun i hi => upK_bd hi
    have tm := ltimes_q lb hv false false
    rw [Rat.mul_comm] at tm
    have ab := above_qo (p := v * wsum upK 0 qs) (q := wsum (costL many p) 0 qs) (.inr mb) false false
    have hw : seasB many v qs p = !decide (wsum (costL many p) 0 qs < v * wsum upK 0 qs) := rfl
    obtain ⟨u4, u5, u6, u7, ih⟩ := lseas_loop Q hql hv n (p + 1) t4 (.va false (.int p)) (.va false (prQ (wsum (costL many p) 0 qs))) t7 (by omega) (by omega) j4 (stb_va _) (stb_va _) j7
    rw [rng_succ, forL_c]
    unfold pAll
    rw [hw]
    generalize wsum (costL many p) 0 qs = V at *
    generalize v * wsum upK 0 qs = U at *
    generalize wsum upK 0 qs = U2 at *
    by_cases hc : V < U
    · simp only [hc, decide_true] at ab ⊢
      refine ⟨t4, .va false (.int p), .va false (prQ V), t7, .inr ⟨rfl, ?_⟩⟩
      simp only [prQ, prI] at *
      simp [storeK_stb k5, storeK_stb k6, F__law_lengths_fit_l3, lim, show many < 4611686018427387904 by omega, show -4611686018427387904 ≤ many by omega, lo, tm, ab]
    · simp only [hc, decide_false] at ab ⊢
      refine ⟨u4, u5, u6, u7, ?_⟩
      simp only [prQ, prI] at *
      rcases ih with ⟨i1, i2⟩ | ⟨i1, i2⟩
      · refine .inl ⟨by simp [i1], ?_⟩
        rw [← i2]
        simp [storeK_stb k5, storeK_stb k6, F__law_lengths_fit_l3, lim, show many < 4611686018427387904 by omega, show -4611686018427387904 ≤ many by omega, lo, tm, ab]
      · refine .inr ⟨by simp [i1], ?_⟩
        rw [← i2]
        simp [storeK_stb k5, storeK_stb k6, F__law_lengths_fit_l3, lim, show many < 4611686018427387904 by omega, show -4611686018427387904 ≤ many by omega, lo, tm, ab]
theorem law_seasons_ok {T : Nat} {many : Int} {v : Rat} {vs : List (Int × Int)} (R : RowOk T vs) (h1 : 1 ≤ many ∧ many ≤ 12) (hv : Bq v) (x y z : Bool) :
    F__law_lengths_fit [.va x (.int many), .va y (prQ v), .va z (tupP vs)] = .ok (.va (.bool (judgeL many v vs))) [.va x (.int many), .va y (prQ v), .va z (tupP vs)] := by
  have ch := lchances_ok R false
  unfold judgeL
  by_cases hl : (vs.length : Int) = many
  · rw [decide_eq_true hl, Bool.true_and]
    cases hc : ch1 vs with
    | false =>
      rw [hc] at ch
      simp only [prQ, prI] at *
      simp [F__law_lengths_fit, ch, hl]
    | true =>
      rw [hc] at ch
      obtain ⟨Q, ql, qe⟩ := qok_of R h1 (by omega) hc
      have hs := qok_sum Q
      obtain ⟨t4, j4, le⟩ := lleast_loop Q.pos Q.len Q.fr (.va false (.int many)) (.va false (prQ v)) .un .un .un (qsOf vs) [] 0 0 .un rfl (Fr.zero Q.pos.1 (Int.le_refl 0)) (Int.le_refl 0) (by omega) trivial
      rw [Rat.zero_add, prQ_zero] at le
      simp only [List.length_nil, Int.natCast_zero] at le
      rw [show (qsOf vs).length = many.toNat by omega] at le
      obtain ⟨u4, u5, u6, u7, lo⟩ := lseas_loop Q (by omega) hv (many + 1).toNat 1 t4 .un .un .un (by decide) (by omega) j4 trivial trivial trivial
      rw [← qe] at le lo
      rw [Bool.true_and]
      generalize wsum upK 0 (qsOf vs) = U2 at *
      simp only [prQ, prI] at *
      have hb : (many + 2 < 4611686018427387904 ∧ -4611686018427387904 ≤ many + 2) ∧ many < 4611686018427387904 ∧ -4611686018427387904 ≤ many := by omega
      have hr : (many + 2 - 1).toNat = (many + 1).toNat := by omega
      rcases lo with ⟨i1, i2⟩ | ⟨i1, i2⟩
      · simp [F__law_lengths_fit, ch, hl, le, x_rng2, hb, hr, i2, i1, lim]
      · simp [F__law_lengths_fit, ch, hl, le, x_rng2, hb, hr, i2, i1, lim]
  · rw [decide_eq_false hl]
    simp only [prQ, prI] at *
    simp [F__law_lengths_fit, hl]
theorem ch1_iff {vs : List (Int × Int)} (h : ch1 vs = true) : (∀ q ∈ qsOf vs, 0 ≤ q) ∧ (qsOf vs).sum = 1 := by
  unfold ch1 at h
  simp only [Bool.and_eq_true, decide_eq_true_eq] at h
  exact ⟨q_nonneg (all_ok h.1), h.2⟩
theorem dual {many : Int} {v S : Rat} {ws ps : List (Int × Int)} (h1 : 1 ≤ many ∧ many ≤ 12) (hw : judgeD many v ws = true) (hp : judgeL many S ps = true) : S ≤ v := by
  unfold judgeD at hw
  unfold judgeL at hp
  simp only [Bool.and_eq_true, decide_eq_true_eq] at hw hp
  obtain ⟨⟨l1, l2⟩, cw, aw⟩ := hw
  obtain ⟨pl, cp, ap⟩ := hp
  obtain ⟨wn, w1⟩ := ch1_iff cw
  obtain ⟨pn, p1⟩ := ch1_iff cp
  have hwl : (qsOf ws).length = ws.length := by unfold qsOf; rw [List.length_map]
  have hpl : (qsOf ps).length = ps.length := by unfold qsOf; rw [List.length_map]
  rw [pAll_iff] at aw ap
  -- the length that stands for each season
  let dj : Nat → Int := fun j => if (j : Int) < many - 1 then (j : Int) + 1 else (lastD many ws.length : Int)
  have hdj : ∀ j : Nat, dj j = if (j : Int) < many - 1 then (j : Int) + 1 else (lastD many ws.length : Int) := fun j => rfl
  have hla : (lastD many ws.length : Int) ≥ many + 1 ∧ (lastD many ws.length : Int) ≥ ws.length + 1 := by unfold lastD; omega
  have hW : ∀ j : Nat, j < (qsOf ps).length → wsum (costD many (dj j)) 0 (qsOf ws) ≤ v * ((upK j : Int) : Rat) := fun j hj => by
    have hb : 1 ≤ dj j ∧ dj j ≤ (lastD many ws.length : Int) := by rw [hdj]; split <;> omega
    have := aw (dj j) hb.1 (by omega)
    unfold daysB at this
    simp only [Bool.not_eq_true', decide_eq_false_iff_not] at this
    have hm : mnD (dj j) many = upK j := by
      unfold mnD upK
      rw [hdj]
      split <;> split <;> omega
    rw [hm] at this
    exact Rat.not_lt.mp this
  have hP : ∀ i : Nat, i < (qsOf ws).length → S * wsum upK 0 (qsOf ps) ≤ wsum (costL many ((i : Int) + 1)) 0 (qsOf ps) := fun i hi => by
    by_cases hc : (i : Int) + 1 ≤ many + 1
    · have := ap ((i : Int) + 1) (by omega) (by omega)
      unfold seasB at this
      simp only [Bool.not_eq_true', decide_eq_false_iff_not] at this
      exact Rat.not_lt.mp this
    · have := ap (many + 1) (by omega) (by omega)
      unfold seasB at this
      simp only [Bool.not_eq_true', decide_eq_false_iff_not] at this
      refine Rat.le_trans (Rat.not_lt.mp this) ?_
      rw [wsum_ssum, wsum_ssum]
      refine ssum_le _ 0 pn fun j _ hj => ?_
      rw [Rat.intCast_le_intCast]
      unfold costL
      split <;> split <;> omega
  have hcc : ∀ i j : Nat, i < (qsOf ws).length → j < (qsOf ps).length → costD many (dj j) i = costL many ((i : Int) + 1) j := fun i j hi hj => by
    unfold costD costL
    rw [hdj]
    split <;> split <;> split <;> omega
  have e1 : ssum (fun j => ssum (fun i => ((costD many (dj j) i : Int) : Rat)) 0 (qsOf ws)) 0 (qsOf ps) ≤ ssum (fun j => v * ((upK j : Int) : Rat)) 0 (qsOf ps) :=
    ssum_le _ 0 pn fun j _ hj => by rw [← wsum_ssum]; exact hW j (by omega)
  rw [ssum_mul, ← wsum_ssum] at e1
  have e2 : ssum (fun j => ssum (fun i => ((costD many (dj j) i : Int) : Rat)) 0 (qsOf ws)) 0 (qsOf ps) = ssum (fun i => ssum (fun j => ((costL many ((i : Int) + 1) j : Int) : Rat)) 0 (qsOf ps)) 0 (qsOf ws) := by
    rw [ssum_swap (fun i j => ((costD many (dj j) i : Int) : Rat))]
    apply ssum_congr
    intro i _ hi
    apply ssum_congr
    intro j _ hj
    rw [hcc i j (by omega) (by omega)]
  have e3 : ssum (fun _ => S * wsum upK 0 (qsOf ps)) 0 (qsOf ws) ≤ ssum (fun i => ssum (fun j => ((costL many ((i : Int) + 1) j : Int) : Rat)) 0 (qsOf ps)) 0 (qsOf ws) :=
    ssum_le _ 0 wn fun i _ hi => by rw [← wsum_ssum]; exact hP i (by omega)
  rw [ssum_const, w1, Rat.mul_one] at e3
  have e5 : ssum (fun _ => ((1 : Int) : Rat)) 0 (qsOf ps) ≤ wsum upK 0 (qsOf ps) := by
    rw [wsum_ssum]
    exact ssum_le _ 0 pn fun j _ _ => by
      rw [Rat.intCast_le_intCast]
      unfold upK
      omega
  rw [ssum_const, p1, Rat.mul_one] at e5
  have hpos : 0 < wsum upK 0 (qsOf ps) := by
    have : ((1 : Int) : Rat) = 1 := rfl
    grind
  have e6 : S * wsum upK 0 (qsOf ps) ≤ v * wsum upK 0 (qsOf ps) := Rat.le_trans e3 (by rw [← e2]; exact e1)
  exact Rat.le_of_mul_le_mul_right e6 hpos
end K57
set_option Elab.async false
set_option linter.all false
set_option maxRecDepth 100000
set_option maxHeartbeats 4000000
namespace K57
open PySem SE
theorem lc_dbl {qs : List Rat} (hl : qs.length ≤ 50) {r : SE.Env} (h1 : r[1]? = some (.va false (.tuple (qs.map prQ)))) (hv : [7, 8, 9].all (notOw r) = true)
    (he : ∀ q ∈ qs, lpK [7, 8, 9] tYes F__law_bent_c1 (wipeE [7, 8, 9] r) true (prI (2 * q.num, 2 * (q.den : Int))) (put (.t [(.v 8), (.v 9)]) (prQ q) (wipeE [7, 8, 9] r))) :
    dLc [7, 8, 9] (iSeq (dVar 1)) (.t [(.v 8), (.v 9)]) tYes F__law_bent_c1 r = .ok (.nw (.list (((prs qs).map fun v => (2 * v.1, 2 * v.2)).map prI))) r := by
  rw [lc_map prQ (fun q => prI (2 * q.num, 2 * (q.den : Int))) qs]
  · unfold prs
    rw [List.map_map, List.map_map]
    rfl
  · simp [h1]
  · exact hv
  · exact he
  · unfold lim; omega
theorem bent_ok {ns : List Int} (W : Wf ns) {c : Int} (h0 : 0 ≤ c) (h1 : c < 1000000) {T : Nat} {qs : List Rat} (hT : 0 < T ∧ T ≤ 10000000000000) (hl : 1 ≤ qs.length ∧ qs.length ≤ 40) (h : ∀ q ∈ qs, Fr T (1 * (T : Int)) q) (y : Bool) :
    ∃ vs, RowOk (T * 10) vs ∧ F__law_bent [.ow false false (stD ns c), .va y (.tuple (qs.map prQ))] = .ok (.va (tupP vs)) [.ow false false (stD ns (c + 4)), .va y (.tuple (qs.map prQ))] := by
  have n1 := next_ok W (c := c) (m := (qs.length : Int)) h0 (by omega) (by omega) false false
  have n2 := next_ok W (c := c + 1) (m := 3) (by omega) (by omega) (by decide) false false
  have n3 := next_ok W (c := c + 1 + 1) (m := (qs.length : Int)) (by omega) (by omega) (by omega) false false
  have n4 := next_ok W (c := c + 1 + 1 + 1) (m := 6) (by omega) (by omega) (by decide) false false
  have a1 := drw_lo ns c (m := (qs.length : Int)) (by omega)
  have a2 := drw_hi ns c (m := (qs.length : Int)) (by omega)
  have b1 := drw_lo ns (c + 1) (m := 3) (by decide)
  have b2 := drw_hi ns (c + 1) (m := 3) (by decide)
  have o1 := drw_lo ns (c + 1 + 1) (m := (qs.length : Int)) (by omega)
  have o2 := drw_hi ns (c + 1 + 1) (m := (qs.length : Int)) (by omega)
  have i1 := drw_lo ns (c + 1 + 1 + 1) (m := 6) (by decide)
  have i2 := drw_hi ns (c + 1 + 1 + 1) (m := 6) (by decide)
  generalize drw ns c (qs.length : Int) = a at *
  generalize drw ns (c + 1) 3 = b at *
  generalize drw ns (c + 1 + 1) (qs.length : Int) = o at *
  generalize drw ns (c + 1 + 1 + 1) 6 = i at *
  obtain ⟨A, rfl⟩ : ∃ A : Nat, a = (A : Int) := ⟨a.toNat, by omega⟩
  obtain ⟨O, rfl⟩ : ∃ O : Nat, o = (O : Int) := ⟨o.toNat, by omega⟩
  obtain ⟨cc, hcc, fx⟩ : ∃ cc : Int, (0 ≤ cc ∧ cc ≤ 10) ∧ fIx (.list [.tuple [.int 1, .int 2], .tuple [.int 1, .int 10], .tuple [.int 1, .int 1]]) (.int b) = some (.va (prQ ((cc : Rat) / ((10 : Int) : Rat)))) := by
    have : b = 0 ∨ b = 1 ∨ b = 2 := by omega
    rcases this with rfl | rfl | rfl
    · exact ⟨5, by decide, by kernel_rfl⟩
    · exact ⟨1, by decide, by kernel_rfl⟩
    · exact ⟨10, by decide, by kernel_rfl⟩
  have hA : A < qs.length := by omega
  have hO : O < qs.length := by omega
  have BO := bends_ok hT hl h hA hO hcc
  obtain ⟨r, hr⟩ : ∃ r : Rat, r = (cc : Rat) / ((10 : Int) : Rat) := ⟨_, rfl⟩
  have hgA := getD_memQ hA
  have pf := part_fr (h _ hgA) hcc
  rw [← hr] at fx BO pf
  have br : Bq r := by
    have := (Fr.of (T := 10) (a := cc) (b := 10) (K := 1) (by decide) (by decide) (Int.dvd_refl _) (by omega)).bq (by decide) (by decide)
    rw [← hr] at this
    exact this
  have h2 : ∀ q ∈ qs, Fr (T * 10) (1 * ((T * 10 : Nat) : Int)) q := fun q hq => by
    have := (h q hq).tm (m := 10) (by decide)
    refine this.mono ?_
    rw [Int.natCast_mul, Int.one_mul, Int.one_mul]
    exact Int.le_refl _
  have bq : ∀ q ∈ qs, Bq q := fun q hq => (h2 q hq).bq (by omega) (by omega)
  have t1 := ltimes_q (bq _ hgA) br false false
  have bp := pf.bq (by omega) (by omega)
  have p1 := lplus_q (bq _ hgA) ((Fr.neg pf).bq (by omega) (by omega)) false false
  rw [← neg_pr] at p1
  have x1 := tixQ hA
  have s1 := fSetL_nat (os := qs.map prQ) (k := (A : Int)) (d := prQ (qs.getD A 0 + -(qs.getD A 0 * r))) (by omega) (by rw [List.length_map]; omega)
  rw [← List.map_set, Int.toNat_natCast] at s1
  have hgm : ((qs.set A (qs.getD A 0 + -(qs.getD A 0 * r))).getD O 0) ∈ qs.set A (qs.getD A 0 + -(qs.getD A 0 * r)) := getD_memQ (by rw [List.length_set]; exact hO)
  have bm : Bq ((qs.set A (qs.getD A 0 + -(qs.getD A 0 * r))).getD O 0) := by
    rcases List.mem_or_eq_of_mem_set hgm with hx | hx
    · exact bq _ hx
    · rw [hx]
      exact ((h2 _ hgA).add (Fr.neg pf)).bq (by omega) (by omega)
  have p2 := lplus_q bm bp false false
  have x2 := tixQl (qs := qs.set A (qs.getD A 0 + -(qs.getD A 0 * r))) (k := O) (by rw [List.length_set]; exact hO)
  have s2 := fSetL_nat (os := (qs.set A (qs.getD A 0 + -(qs.getD A 0 * r))).map prQ) (k := (O : Int)) (d := prQ ((qs.set A (qs.getD A 0 + -(qs.getD A 0 * r))).getD O 0 + qs.getD A 0 * r)) (by omega) (by rw [List.length_map, List.length_set]; omega)
  rw [← List.map_set, Int.toNat_natCast] at s2
  have v1 : PyData.tuple (((qs.set A (qs.getD A 0 + -(qs.getD A 0 * r))).set O ((qs.set A (qs.getD A 0 + -(qs.getD A 0 * r))).getD O 0 + qs.getD A 0 * r)).map prQ) = tupP (prs ((qs.set A (qs.getD A 0 + -(qs.getD A 0 * r))).set O ((qs.set A (qs.getD A 0 + -(qs.getD A 0 * r))).getD O 0 + qs.getD A 0 * r))) := by
    rw [tupP, prs_prI]
  have lp : (prs qs).length = qs.length := by unfold prs; rw [List.length_map]
  have v2 := (fSl_from (xs := qs.map prQ) (k := 1) (by decide)).1
  have v3 : fAdd (.tuple (qs.map prQ)) (.tuple [.tuple [.int 0, .int 1]]) = some (.va (tupP (prs qs ++ [(0, 1)]))) := by
    rw [fAdd_t (by simp; unfold lim; omega), tupP, List.map_append, prs_prI]
    rfl
  rw [show Int.toNat 1 = 1 from rfl, ← prs_prI, ← List.map_drop] at v2
  have v4 : fRev (.tuple (qs.map prQ)) = some (.va (tupP (prs qs).reverse)) := by
    rw [fRev_t, tupP, List.map_reverse, prs_prI]
  have v6 := (fSl_to (xs := qs.map prQ) (k := (A : Int)) (by omega)).1
  have v7 := (fSl_from (xs := qs.map prQ) (k := (A : Int) + 1) (by omega)).1
  rw [Int.toNat_natCast, ← prs_prI, ← List.map_take] at v6
  rw [show ((A : Int) + 1).toNat = A + 1 by omega, ← prs_prI, ← List.map_drop] at v7
  have v8 : fAdd (tupP ((prs qs).take A)) (.tuple [.tuple [.int (-1), .int 3]]) = some (.va (tupP ((prs qs).take A ++ [(-1, 3)]))) := by
    rw [fAdd_t (by simp; unfold lim; omega), tupP, List.map_append]
    rfl
  have v9 : fAdd (tupP ((prs qs).take A ++ [(-1, 3)])) (tupP ((prs qs).drop (A + 1))) = some (.va (tupP ((prs qs).take A ++ [(-1, 3)] ++ (prs qs).drop (A + 1)))) := by
    rw [fAdd_t (by simp; unfold lim; omega), ← List.map_append]
  rw [prs_prI] at v6 v7 v2
  have hD : ∃ vs ∈ bends qs A O r, fIx (.list ((bends qs A O r).map tupP)) (.int i) = some (.va (tupP vs)) := by
    refine ⟨(bends qs A O r).getD i.toNat [], ?_, fIx_l i1 ?_⟩
    · rw [List.getD_eq_getElem?_getD, List.getElem?_eq_getElem (by show i.toNat < 6; omega)]
      exact List.getElem_mem _
    · rw [List.getElem?_map, List.getD_eq_getElem?_getD, List.getElem?_eq_getElem (by show i.toNat < 6; omega)]
      rfl
  obtain ⟨vs, hvs, fi⟩ := hD
  refine ⟨vs, BO vs hvs, ?_⟩
  have hB : (bends qs A O r).map tupP = [tupP (prs ((qs.set A (qs.getD A 0 + -(qs.getD A 0 * r))).set O ((qs.set A (qs.getD A 0 + -(qs.getD A 0 * r))).getD O 0 + qs.getD A 0 * r))), tupP ((prs qs).drop 1), tupP (prs qs ++ [(0, 1)]), tupP (prs qs).reverse, tupP ((prs qs).map (fun v => (2 * v.1, 2 * v.2))), tupP ((prs qs).take A ++ [(-1, 3)] ++ (prs qs).drop (A + 1))] := rfl
  rw [hB] at fi
  clear hB BO hvs
  generalize tupP ((prs qs).take A ++ [(-1, 3)] ++ (prs qs).drop (A + 1)) = U6 at *
  generalize tupP ((prs qs).take A ++ [(-1, 3)]) = U7 at *
  generalize tupP (prs qs ++ [(0, 1)]) = U3 at *
  generalize tupP (prs qs).reverse = U4 at *
  have v2 : fSl (.tuple (qs.map prQ)) (some 1) none = some (.va (tupP ((prs qs).drop 1))) := v2
  have v6 : fSl (.tuple (qs.map prQ)) none (some (A : Int)) = some (.va (tupP ((prs qs).take A))) := v6
  have v7 : fSl (.tuple (qs.map prQ)) (some ((A : Int) + 1)) none = some (.va (tupP ((prs qs).drop (A + 1)))) := v7
  generalize tupP ((prs qs).take A) = U8 at *
  generalize tupP ((prs qs).drop (A + 1)) = U9 at *
  generalize tupP ((prs qs).drop 1) = U2 at *
  rw [← v1] at fi
  have hl5 := fun (s2 s3 s4 s5 s6 : Sl) => lc_dbl (qs := qs) (by omega) (r := [.ow true false (stD ns (c + 1 + 1 + 1)), .va false (.tuple (qs.map prQ)), s2, s3, s4, s5, s6, .un, .un, .un]) rfl rfl (fun q hq => by
    have m1 := fMul_i (i := 2) (j := q.num) (.inl (by decide))
    have m2 := fMul_i (i := 2) (j := (q.den : Int)) (.inl (by decide))
    simp [F__law_bent_c1, m1, m2, lim])
  have fi : fIx (.list [PyData.tuple (((qs.set A (qs.getD A 0 + -(qs.getD A 0 * r))).set O ((qs.set A (qs.getD A 0 + -(qs.getD A 0 * r))).getD O 0 + qs.getD A 0 * r)).map prQ), U2, U3, U4, .tuple (((prs qs).map (fun v => (2 * v.1, 2 * v.2))).map prI), U6]) (.int i) = some (.va (tupP vs)) := fi
  generalize ((prs qs).map (fun v => (2 * v.1, 2 * v.2))).map prI = U5 at *
  generalize ((qs.set A (qs.getD A 0 + -(qs.getD A 0 * r))).set O ((qs.set A (qs.getD A 0 + -(qs.getD A 0 * r))).getD O 0 + qs.getD A 0 * r)).map prQ = M2 at *
  generalize (qs.set A (qs.getD A 0 + -(qs.getD A 0 * r))).getD O 0 + qs.getD A 0 * r = V4 at *
  generalize (qs.set A (qs.getD A 0 + -(qs.getD A 0 * r))).getD O 0 = V3 at *
  generalize (qs.set A (qs.getD A 0 + -(qs.getD A 0 * r))).map prQ = M1 at *
  generalize qs.getD A 0 + -(qs.getD A 0 * r) = V2 at *
  generalize qs.getD A 0 * r = V1 at *
  generalize qs.getD A 0 = V0 at *
  generalize hQ : qs.map prQ = Q0 at *
  have hQl : Q0.length = qs.length := by rw [← hQ, List.length_map]
  clear hQ v1 h h2 bq
  generalize tupP vs = UU at *
  have hz : c + 4 = c + 1 + 1 + 1 + 1 := by omega
  rw [hz]
  simp only [prQ, prI] at *
  simp [F__law_bent, lim, hQl, n1, x1, n2, fx, t1, n3, p1, s1, x2, p2, s2, v2, v3, v4, hl5, v6, v7, v8, v9, n4, fi]
def F_law_l9_s0 (t : DS) : DS := (sSeq (sAsg false 3 (dOp fAdd (dC (.int 1)) (dCall SE.F_next (rCons (dVar 1) (rCons (dC (.int 12)) rNil)))))
  (sSeq (sAsg false 4 (dC (.int 1)))
  (sSeq (sAsg false 5 (dC (.int 1)))
  (sSeq (sFor (SE.iRng1 (dVar 3)) (.v 6) F_law_l1)
  (sSeq (sAsg false 7 (dCall F_mixed_ratio (rCons (dVar 3) rNil)))
  (sSeq (sIf (SE.tNot (SE.tVal (dCall SE.F_same (rCons (dVar 7) (rCons (dCall SE.F_fraction (rCons (dVar 5) (rCons (dOp fSub (dVar 5) (dVar 4)) rNil))) rNil))))) (sSeq (sRet (dC (.bool false)))
  sNext) sNext)
  (sSeq (sAsg false 8 (dCall F_mixed_days (rCons (dVar 3) rNil)))
  (sSeq (sAsg false 9 (dCall F_hard_seasons (rCons (dVar 3) rNil)))
  (sSeq (sIf (SE.tOr (SE.tNot (SE.tVal (dCall F__law_days_fit (rCons (dVar 3) (rCons (dVar 7) (rCons (dVar 8) rNil)))))) (SE.tOr (SE.tNot (SE.tVal (dCall F__law_lengths_fit (rCons (dVar 3) (rCons (dVar 7) (rCons (dVar 9) rNil)))))) (SE.tB (dOp fNe (dB (f1 gLen) (rCons (dVar 8) rNil)) (dVar 3))))) (sSeq (sRet (dC (.bool false)))
  sNext) sNext)
  t)))))))))
def F_law_l9_s1 (t : DS) : DS := (sSeq (sAsg false 10 (dOp fAdd (dOp fAdd (dLst (aCons (dVar 8) (aCons (dVar 9) (aCons (dTup (aCons (dTup (aCons (dC (.int 1)) (aCons (dC (.int 1)) aNil))) aNil)) (aCons (dOp fAdd (dOp fMul (dTup (aCons (dTup (aCons (dC (.int 0)) (aCons (dC (.int 1)) aNil))) aNil)) (dOp fSub (dVar 3) (dC (.int 1)))) (dTup (aCons (dTup (aCons (dC (.int 1)) (aCons (dC (.int 1)) aNil))) aNil))) aNil))))) (dLc [15, 6] (SE.iRng1 (dC (.int 4))) (.v 6) tYes F_law_c2)) (dLc [15, 6] (SE.iRng1 (dC (.int 4))) (.v 6) tYes F_law_c3)))
  t)
def F_law_l9_t2 : DS := (sSeq (sFor (iSeq (dLst (aCons (dVar 7) (aCons (dTup (aCons (dC (.int 2)) (aCons (dC (.int 1)) aNil))) (aCons (dCall SE.F_fraction (rCons (dOp fAdd (dOp fMul (dOp fIx (dVar 7) (dC (.int 0))) (dC (.int 20))) (dC (.int 1))) (rCons (dOp fMul (dOp fIx (dVar 7) (dC (.int 1))) (dC (.int 20))) rNil))) (aCons (dCall SE.F_fraction (rCons (dOp fSub (dOp fMul (dOp fIx (dVar 7) (dC (.int 0))) (dC (.int 20))) (dC (.int 1))) (rCons (dOp fMul (dOp fIx (dVar 7) (dC (.int 1))) (dC (.int 20))) rNil))) aNil)))))) (.v 11) F_law_l8)
  sNext)
def F_law_l9_t1 : DS := F_law_l9_s1 F_law_l9_t2
theorem F_law_l9_seg : F_law_l9 = F_law_l9_s0 F_law_l9_t1 := rfl

/-- what the table says -/
structure TabOk (n : Int) : Prop where
  r1 : okV (rateP n.toNat)
  r2 : (rateP n.toNat).1 ≤ 10000000000000 ∧ (rateP n.toNat).2 ≤ 10000000000000 ∧ 0 < (rateP n.toNat).1
  jd : judgeD n (rateQ n) (dayP n.toNat) = true
  jl : judgeL n (rateQ n) (lenP n.toNat) = true
  dl : ((dayP n.toNat).length : Int) = n
  ll : ((lenP n.toNat).length : Int) = n
  d : ∃ T, (0 < T ∧ T ≤ 10000000000000) ∧ ∀ v ∈ dayP n.toNat, okV v ∧ Fr T (1 * (T : Int)) (toQ v)
  l : ∃ T, (0 < T ∧ T ≤ 10000000000000) ∧ ∀ v ∈ lenP n.toNat, okV v ∧ Fr T (1 * (T : Int)) (toQ v)
theorem tabOk {n : Int} (h : 1 ≤ n ∧ n ≤ 12) : TabOk n := by
  have hb := tab_ok h
  unfold tab at hb
  simp only [Bool.and_eq_true, decide_eq_true_eq, List.all_eq_true] at hb
  obtain ⟨⟨⟨⟨⟨⟨⟨⟨⟨⟨a1, a2⟩, a3⟩, a4⟩, b1, b2⟩, c1, c2⟩, d1, d2⟩, e1⟩, e2⟩, e3⟩, e4⟩ := hb
  have en : ((n.toNat : Nat) : Int) = n := by omega
  rw [en] at b1 b2
  have f1 : ∀ v ∈ dayP n.toNat, okV v := by
    have := b1
    unfold judgeD ch1 at this
    simp only [Bool.and_eq_true, decide_eq_true_eq] at this
    exact all_ok this.2.1.1
  have f2 : ∀ v ∈ lenP n.toNat, okV v := by
    have := b2
    unfold judgeL ch1 at this
    simp only [Bool.and_eq_true, decide_eq_true_eq] at this
    exact all_ok this.2.1.1
  refine ⟨okB_iff.mp a1, ⟨a2, a3, a4⟩, b1, b2, by omega, by omega, ⟨_, ⟨e3, by omega⟩, fun v hv => ⟨f1 v hv, ?_⟩⟩, ⟨_, ⟨e4, by omega⟩, fun v hv => ⟨f2 v hv, ?_⟩⟩⟩
  · obtain ⟨g1, g2⟩ := d1 v hv
    have := f1 v hv
    exact Fr.of e3 (by have := this.1; omega) (by simpa using g1) ⟨by obtain ⟨z1, z2, _⟩ := this; omega, by omega⟩
  · obtain ⟨g1, g2⟩ := d2 v hv
    have := f2 v hv
    exact Fr.of e4 (by have := this.1; omega) (by simpa using g1) ⟨by obtain ⟨z1, z2, _⟩ := this; omega, by omega⟩
theorem rate_bq {n : Int} (h : 1 ≤ n ∧ n ≤ 12) : Bq (rateQ n) ∧ prI (rateP n.toNat) = prQ (rateQ n) ∧ (rateQ n).num = (rateP n.toNat).1 ∧ ((rateQ n).den : Int) = (rateP n.toNat).2 := by
  have T := tabOk h
  have e := prI_q T.r1
  rw [show toQ (rateP n.toNat) = rateQ n from rfl] at e
  have e2 := e
  unfold prQ at e2
  simp only [prI, PyData.tuple.injEq, List.cons.injEq, PyData.int.injEq, and_true] at e2
  have r1 := T.r1
  have r2 := T.r2
  refine ⟨⟨?_, ?_⟩, e, e2.1.symm, e2.2.symm⟩
  · have := r1.2.1; omega
  · have := r1.1; omega
theorem prs_qsOf {vs : List (Int × Int)} (h : ∀ v ∈ vs, okV v) : prs (qsOf vs) = vs := by
  unfold prs qsOf
  rw [List.map_map]
  conv => rhs; rw [← List.map_id vs]
  apply List.map_congr_left
  intro v hv
  have e := fr_rat (a := v.1) (b := v.2) (by have := (h v hv).1; omega)
  rw [fr_selfV (h v hv)] at e
  exact e.symm
theorem pow_loop {n : Int} (h : 1 ≤ n ∧ n ≤ 12) (s0 s1 s2 s7 s8 s9 s10 s11 s12 s13 s14 s15 s16 : Sl) : ∀ (m k : Nat) (s6 : Sl), Nw s6 →
    ∃ t6, Nw t6 ∧ forL (.v 6) F_law_l1 (rng (k : Int) m) [s0, s1, s2, .va false (.int n), .va false (.int ((n - 1) ^ k)), .va false (.int (n ^ k)), s6, s7, s8, s9, s10, s11, s12, s13, s14, s15, s16] =
      .nx [s0, s1, s2, .va false (.int n), .va false (.int ((n - 1) ^ (k + m))), .va false (.int (n ^ (k + m))), t6, s7, s8, s9, s10, s11, s12, s13, s14, s15, s16]
  | 0, k, s6, k6 => ⟨s6, k6, rfl⟩
  | m + 1, k, s6, k6 => by
    obtain ⟨t6, j6, ih⟩ := pow_loop h s0 s1 s2 s7 s8 s9 s10 s11 s12 s13 s14 s15 s16 m (k + 1) (.va false (.int (k : Int))) (nw_va _)
    have m1 := fMul_i (i := (n - 1) ^ k) (j := n - 1) (.inr (by omega))
    have m2 := fMul_i (i := n ^ k) (j := n) (.inr (by omega))
    refine ⟨t6, j6, ?_⟩
    rw [Int.pow_succ, Int.pow_succ, show ((k + 1 : Nat) : Int) = (k : Int) + 1 by omega, show k + 1 + m = k + (m + 1) by omega] at ih
    rw [rng_succ, forL_c, ← ih]
    have k6' := k6.stb
    generalize (n - 1) ^ k = A at *
    generalize n ^ k = B at *
    simp [storeK_stb k6', F_law_l1, m1, m2]
theorem rate_pow {n : Int} (h : 1 ≤ n ∧ n ≤ 12) : ((n ^ n.toNat : Int) : Rat) / ((n ^ n.toNat - (n - 1) ^ n.toNat : Int) : Rat) = rateQ n ∧ 0 < n ^ n.toNat - (n - 1) ^ n.toNat ∧ (n ^ n.toNat).natAbs < 10 ^ 20 ∧ (n ^ n.toNat - (n - 1) ^ n.toNat).natAbs < 10 ^ 20 := by
  have : n = 1 ∨ n = 2 ∨ n = 3 ∨ n = 4 ∨ n = 5 ∨ n = 6 ∨ n = 7 ∨ n = 8 ∨ n = 9 ∨ n = 10 ∨ n = 11 ∨ n = 12 := by omega
  rcases this with rfl | rfl | rfl | rfl | rfl | rfl | rfl | rfl | rfl | rfl | rfl | rfl <;> exact ⟨by kernel_rfl, by decide +kernel, by decide +kernel, by decide +kernel⟩
theorem seg0 {ns : List Int} (W : Wf ns) {c : Int} (h0 : 0 ≤ c) (h1 : c < 900000) (t : DS) (s0 s2 s3 s4 s5 s6 s7 s8 s9 s10 s11 s12 s13 : Sl) (k3 : Stb s3) (k4 : Stb s4) (k5 : Stb s5) (k6 : Nw s6) (k7 : Stb s7) (k8 : Stb s8) (k9 : Stb s9) :
    ∃ (n : Int) (d4 d5 : D) (t6 : Sl), (1 ≤ n ∧ n ≤ 12) ∧ Nw t6 ∧ F_law_l9_s0 t [s0, .ow false false (stD ns c), s2, s3, s4, s5, s6, s7, s8, s9, s10, s11, s12, s13, .un, .un, .un] =
      t [s0, .ow false false (stD ns (c + 1)), s2, .va false (.int n), .va false d4, .va false d5, t6, .va false (prQ (rateQ n)), .va false (tupP (dayP n.toNat)), .va false (tupP (lenP n.toNat)), s10, s11, s12, s13, .un, .un, .un] := by
  have n1 := next_ok W (c := c) (m := 12) h0 (by omega) (by decide) false false
  have a1 := drw_lo ns c (m := 12) (by decide)
  have a2 := drw_hi ns c (m := 12) (by decide)
  obtain ⟨n, hn⟩ : ∃ n, n = 1 + drw ns c 12 := ⟨_, rfl⟩
  have hn12 : 1 ≤ n ∧ n ≤ 12 := by omega
  have T := tabOk hn12
  obtain ⟨rb, re, _, _⟩ := rate_bq hn12
  have ro := ratio_v hn12
  have dv := days_v hn12
  have lv := lens_v hn12
  obtain ⟨rp, rpos, rb1, rb2⟩ := rate_pow hn12
  have fr := fractionQ (a := n ^ n.toNat) (b := n ^ n.toNat - (n - 1) ^ n.toNat) rpos (by omega) (by omega) false false
  rw [rp] at fr
  rw [re] at ro
  obtain ⟨t6, j6, lo⟩ := pow_loop hn12 s0 (.ow false false (stD ns (c + 1))) s2 s7 s8 s9 s10 s11 s12 s13 .un .un .un n.toNat 0 s6 k6
  rw [Int.pow_zero, Int.pow_zero, Nat.zero_add] at lo
  simp only [Int.natCast_zero] at lo
  obtain ⟨Td, hTd, hd⟩ := T.d
  obtain ⟨Tl, hTl, hl⟩ := T.l
  have hdl := T.dl
  have hll := T.ll
  have Rd : RowOk Td (dayP n.toNat) := by
    have := rowOk_prs (T := Td) (qs := qsOf (dayP n.toNat)) (by omega) (by unfold qsOf; rw [List.length_map]; omega) fun q hq => by
      obtain ⟨v, hv, rfl⟩ := List.mem_map.mp hq
      exact (hd v hv).2.mono (by omega)
    rw [prs_qsOf fun v hv => (hd v hv).1] at this
    exact this
  have Rl : RowOk Tl (lenP n.toNat) := by
    have := rowOk_prs (T := Tl) (qs := qsOf (lenP n.toNat)) (by omega) (by unfold qsOf; rw [List.length_map]; omega) fun q hq => by
      obtain ⟨v, hv, rfl⟩ := List.mem_map.mp hq
      exact (hl v hv).2.mono (by omega)
    rw [prs_qsOf fun v hv => (hl v hv).1] at this
    exact this
  have jd := law_days_ok Rd hn12 rb false false false
  have jl := law_seasons_ok Rl hn12 rb false false false
  rw [T.jd] at jd
  rw [T.jl] at jl
  have sa := same_big (p := ((rateQ n).num, ((rateQ n).den : Int))) (Nat.lt_trans rb.1 (by decide +kernel)) (by have := rb.2; exact Nat.lt_trans (show ((rateQ n).den : Int).natAbs < 1000000000000000000 by omega) (by decide +kernel)) false false
  refine ⟨n, .int ((n - 1) ^ n.toNat), .int (n ^ n.toNat), t6, hn12, j6, ?_⟩
  have hlen : ((dayP n.toNat).map prI).length = (dayP n.toNat).length := List.length_map _
  clear rp rpos rb1 rb2
  generalize rateQ n = RQ at *
  generalize (n - 1) ^ n.toNat = P1 at *
  generalize n ^ n.toNat = P2 at *
  have hdl2 : (((dayP n.toNat).map prI).length : Int) = n := by omega
  generalize hDD : (dayP n.toNat).map prI = DD at *
  generalize hLL : (lenP n.toNat).map prI = LL at *
  simp only [prQ, prI, tupP, hDD, hLL] at *
  simp [F_law_l9_s0, n1, ← hn, storeK_stb k3, storeK_stb k4, storeK_stb k5, lo, lim, show n < 4611686018427387904 by omega, show -4611686018427387904 ≤ n by omega, ro, storeK_stb k7, fr, sa, dv, storeK_stb k8, lv, storeK_stb k9, jd, jl, hdl2]
end K57
set_option Elab.async false
set_option linter.all false
set_option maxRecDepth 100000
set_option maxHeartbeats 4000000
namespace K57
open PySem SE
def zeroP (n : Nat) : List (Int × Int) := List.replicate n (0, 1)
theorem seg1 {ns : List Int} (W : Wf ns) {c : Int} (h0 : 0 ≤ c) (h1 : c < 900000) (t : DS) {n : Int} (hn : 1 ≤ n ∧ n ≤ 12) (s0 s2 s4 s5 s6 s7 s10 s11 s12 s13 : Sl) (k6 : Nw s6) (k10 : Stb s10) :
    ∃ (vss : List (List (Int × Int))), vss.length = 12 ∧ (∀ vs ∈ vss, ∃ T, RowOk T vs) ∧ F_law_l9_s1 t [s0, .ow false false (stD ns c), s2, .va false (.int n), s4, s5, s6, s7, .va false (tupP (dayP n.toNat)), .va false (tupP (lenP n.toNat)), s10, s11, s12, s13, .un, .un, .un] =
      t [s0, .ow false false (stD ns (c + 32)), s2, .va false (.int n), s4, s5, s6, s7, .va false (tupP (dayP n.toNat)), .va false (tupP (lenP n.toNat)), .va false (.list (vss.map tupP)), s11, s12, s13, .un, .un, .un] := by
  have TT := tabOk hn
  obtain ⟨Td, hTd, hd⟩ := TT.d
  obtain ⟨Tl, hTl, hl⟩ := TT.l
  have hdl := TT.dl
  have hll := TT.ll
  have qd : (dayP n.toNat).map prI = (qsOf (dayP n.toNat)).map prQ := prQs fun v hv => (hd v hv).1
  have ql : (lenP n.toNat).map prI = (qsOf (lenP n.toNat)).map prQ := prQs fun v hv => (hl v hv).1
  have ld : (qsOf (dayP n.toNat)).length = (dayP n.toNat).length := by unfold qsOf; rw [List.length_map]
  have ll : (qsOf (lenP n.toNat)).length = (lenP n.toNat).length := by unfold qsOf; rw [List.length_map]
  have fd : ∀ q ∈ qsOf (dayP n.toNat), Fr Td (1 * (Td : Int)) q := fun q hq => by
    obtain ⟨v, hv, rfl⟩ := List.mem_map.mp hq
    exact (hd v hv).2
  have fl : ∀ q ∈ qsOf (lenP n.toNat), Fr Tl (1 * (Tl : Int)) q := fun q hq => by
    obtain ⟨v, hv, rfl⟩ := List.mem_map.mp hq
    exact (hl v hv).2
  have BW := fun (c : Int) (h0 : 0 ≤ c) (h1 : c < 1000000) => bent_ok W h0 h1 hTd (by omega) fd false
  have BP := fun (c : Int) (h0 : 0 ≤ c) (h1 : c < 1000000) => bent_ok W h0 h1 hTl (by omega) fl false
  rw [← qd] at BW
  rw [← ql] at BP
  let fw : Int → List (Int × Int) := fun c => if h : 0 ≤ c ∧ c < 1000000 then Classical.choose (BW c h.1 h.2) else []
  let fp : Int → List (Int × Int) := fun c => if h : 0 ≤ c ∧ c < 1000000 then Classical.choose (BP c h.1 h.2) else []
  have hw : ∀ c, 0 ≤ c → c < 1000000 → RowOk (Td * 10) (fw c) ∧ F__law_bent [.ow false false (stD ns c), .va false (.tuple ((dayP n.toNat).map prI))] = .ok (.va (tupP (fw c))) [.ow false false (stD ns (c + 4)), .va false (.tuple ((dayP n.toNat).map prI))] := fun c h0 h1 => by
    have e : fw c = Classical.choose (BW c h0 h1) := dif_pos ⟨h0, h1⟩
    rw [e]
    exact Classical.choose_spec (BW c h0 h1)
  have hp : ∀ c, 0 ≤ c → c < 1000000 → RowOk (Tl * 10) (fp c) ∧ F__law_bent [.ow false false (stD ns c), .va false (.tuple ((lenP n.toNat).map prI))] = .ok (.va (tupP (fp c))) [.ow false false (stD ns (c + 4)), .va false (.tuple ((lenP n.toNat).map prI))] := fun c h0 h1 => by
    have e : fp c = Classical.choose (BP c h0 h1) := dif_pos ⟨h0, h1⟩
    rw [e]
    exact Classical.choose_spec (BP c h0 h1)
  clear_value fw fp
  have Rd : RowOk Td (dayP n.toNat) := by
    have := rowOk_prs (T := Td) (qs := qsOf (dayP n.toNat)) (by omega) (by omega) fun q hq => (fd q hq).mono (by omega)
    rw [prs_qsOf fun v hv => (hd v hv).1] at this
    exact this
  have Rl : RowOk Tl (lenP n.toNat) := by
    have := rowOk_prs (T := Tl) (qs := qsOf (lenP n.toNat)) (by omega) (by omega) fun q hq => (fl q hq).mono (by omega)
    rw [prs_qsOf fun v hv => (hl v hv).1] at this
    exact this
  have z1 := fMul_t0 (n := n - 1) (prI (0, 1)) (by omega) (by omega)
  have z2 : PyData.tuple (List.replicate (n - 1).toNat (prI (0, 1))) = tupP (zeroP (n - 1).toNat) := by
    unfold zeroP
    rw [tupP, List.map_replicate]
  rw [z2] at z1
  have z4 : fAdd (tupP (zeroP (n - 1).toNat)) (.tuple [.tuple [.int 1, .int 1]]) = some (.va (tupP (zeroP (n - 1).toNat ++ [(1, 1)]))) := by
    rw [fAdd_t (by simp [zeroP]; unfold lim; omega), tupP, List.map_append]
    rfl
  have z5 : PyData.tuple [.tuple [.int 1, .int 1]] = tupP [(1, 1)] := rfl
  have e8 : ∀ v ∈ zeroP (n - 1).toNat, v = (0, 1) := fun v hv => (List.mem_replicate.mp hv).2
  have lz : (zeroP (n - 1).toNat).length = (n - 1).toNat := List.length_replicate
  have R3 : RowOk Td [(1, 1)] := RowOk.sub Rd (by decide) fun v hv => .inr (.inr (.inl (List.mem_singleton.mp hv)))
  have R4 : RowOk Td (zeroP (n - 1).toNat ++ [(1, 1)]) := RowOk.sub Rd (by rw [List.length_append, lz, List.length_singleton]; omega) fun v hv => by
    rcases List.mem_append.mp hv with hv | hv
    · exact .inr (.inl (e8 v hv))
    · exact .inr (.inr (.inl (List.mem_singleton.mp hv)))
  have lc1 := lc_G (vs := [15, 6]) (it := iRng1 (dC (.int 4))) (p := .v 6) (e := F_law_c2) (i := 1) (b := false) (ns := ns) (c := c) (st := 4) (B := 999999)
    (r0 := [s0, .ow false false (stD ns c), s2, .va false (.int n), s4, s5, s6, s7, .va false (tupP (dayP n.toNat)), .va false (tupP (lenP n.toNat)), s10, s11, s12, s13, .un, .un, .un])
    (r := [s0, .ow false false (stD ns c), s2, .va false (.int n), s4, s5, s6, s7, .va false (tupP (dayP n.toNat)), .va false (tupP (lenP n.toNat)), s10, s11, s12, s13, .un, .un, .un])
    (fun c (_ : Nat) => tupP (fw c)) (fun (k : Nat) => .int (k : Int)) [0, 1, 2, 3] (by decide) (by simp; rfl) (by cases s6 with | un => rfl | va p d => rfl | ow p l d => exact k6.elim) rfl (by decide) h0 (by simp; omega) (by decide) (fun c' x z0 z1 _ => by
      have b := (hw c' z0 (by omega)).2
      simp [F_law_c2, b])
  have lc2 := lc_G (vs := [15, 6]) (it := iRng1 (dC (.int 4))) (p := .v 6) (e := F_law_c3) (i := 1) (b := false) (ns := ns) (c := c + 16) (st := 4) (B := 999999)
    (r0 := [s0, .ow false false (stD ns (c + 16)), s2, .va false (.int n), s4, s5, s6, s7, .va false (tupP (dayP n.toNat)), .va false (tupP (lenP n.toNat)), s10, s11, s12, s13, .un, .un, .un])
    (r := [s0, .ow false false (stD ns (c + 16)), s2, .va false (.int n), s4, s5, s6, s7, .va false (tupP (dayP n.toNat)), .va false (tupP (lenP n.toNat)), s10, s11, s12, s13, .un, .un, .un])
    (fun c (_ : Nat) => tupP (fp c)) (fun (k : Nat) => .int (k : Int)) [0, 1, 2, 3] (by decide) (by simp; rfl) (by cases s6 with | un => rfl | va p d => rfl | ow p l d => exact k6.elim) rfl (by decide) (by omega) (by simp; omega) (by decide) (fun c' x z0 z1 _ => by
      have b := (hp c' z0 (by omega)).2
      simp [F_law_c3, b])
  refine ⟨[dayP n.toNat, lenP n.toNat, [(1, 1)], zeroP (n - 1).toNat ++ [(1, 1)], fw c, fw (c + 4), fw (c + 4 + 4), fw (c + 4 + 4 + 4), fp (c + 16), fp (c + 16 + 4), fp (c + 16 + 4 + 4), fp (c + 16 + 4 + 4 + 4)], rfl, fun vs hvs => ?_, ?_⟩
  · simp only [List.mem_cons, List.not_mem_nil, or_false] at hvs
    rcases hvs with rfl | rfl | rfl | rfl | rfl | rfl | rfl | rfl | rfl | rfl | rfl | rfl
    · exact ⟨_, Rd⟩
    · exact ⟨_, Rl⟩
    · exact ⟨_, R3⟩
    · exact ⟨_, R4⟩
    · exact ⟨_, (hw _ (by omega) (by omega)).1⟩
    · exact ⟨_, (hw _ (by omega) (by omega)).1⟩
    · exact ⟨_, (hw _ (by omega) (by omega)).1⟩
    · exact ⟨_, (hw _ (by omega) (by omega)).1⟩
    · exact ⟨_, (hp _ (by omega) (by omega)).1⟩
    · exact ⟨_, (hp _ (by omega) (by omega)).1⟩
    · exact ⟨_, (hp _ (by omega) (by omega)).1⟩
    · exact ⟨_, (hp _ (by omega) (by omega)).1⟩
  · have e5 : c + 32 = c + 16 + 16 := by omega
    rw [e5]
    simp only [List.map_cons, List.map_nil]
    simp [itemsG] at lc1 lc2
    have a1 := fun (a b c d e f g h : D) => fAdd_l (xs := [a, b, c, d]) (ys := [e, f, g, h]) (by show 8 ≤ lim; decide)
    have a2 := fun (a b c d e f g h a' b' c' d' : D) => fAdd_l (xs := [a, b, c, d, e, f, g, h]) (ys := [a', b', c', d']) (by show 12 ≤ lim; decide)
    simp only [List.cons_append, List.nil_append] at a1 a2
    clear Rd Rl R3 R4 e8 z2 hw hp BW BP
    rw [z5] at z4
    generalize tupP (zeroP (n - 1).toNat ++ [(1, 1)]) = Z2 at *
    generalize tupP (zeroP (n - 1).toNat) = Z0 at *
    generalize tupP (dayP n.toNat) = WR at *
    generalize tupP (lenP n.toNat) = PR at *
    generalize tupP (fw c) = A1 at *
    generalize tupP (fw (c + 4)) = A2 at *
    generalize tupP (fw (c + 4 + 4)) = A3 at *
    generalize tupP (fw (c + 4 + 4 + 4)) = A4 at *
    generalize tupP (fp (c + 16)) = B1 at *
    generalize tupP (fp (c + 16 + 4)) = B2 at *
    generalize tupP (fp (c + 16 + 4 + 4)) = B3 at *
    generalize tupP (fp (c + 16 + 4 + 4 + 4)) = B4 at *
    generalize tupP [(1, 1)] = O1 at *
    simp only [prI] at z1
    simp [F_law_l9_s1, z1, z5, z4, storeK_stb k10, lc1, lc2, a1, a2, lim]
theorem value_turn {n : Int} {v : Rat} (hn : 1 ≤ n ∧ n ≤ 12) (hv : Bq v) {vss : List (List (Int × Int))} (hl : vss.length = 12) (hr : ∀ vs ∈ vss, ∃ T, RowOk T vs) (s0 s1 s2 s4 s5 s6 s8 s9 s12 s13 : Sl) (k12 : Stb s12) (k13 : Stb s13) :
    ∃ t12 t13, Stb t12 ∧ Stb t13 ∧ F_law_l8 [s0, s1, s2, .va false (.int n), s4, s5, s6, .va false (prQ (rateQ n)), s8, s9, .va false (.list (vss.map tupP)), .va false (prQ v), s12, s13, .un, .un, .un] =
      .nx [s0, s1, s2, .va false (.int n), s4, s5, s6, .va false (prQ (rateQ n)), s8, s9, .va false (.list (vss.map tupP)), .va false (prQ v), t12, t13, .un, .un, .un] := by
  have lc : ∀ (e : DE) (g : List (Int × Int) → Bool) (x6 x7 : Sl), (∀ vs ∈ vss, e [s0, s1, s2, .va false (.int n), s4, s5, s6, .va false (prQ (rateQ n)), s8, s9, .va false (.list (vss.map tupP)), .va false (prQ v), x6, x7, .un, .un, .va false (tupP vs)] = .ok (.va (.bool (g vs))) [s0, s1, s2, .va false (.int n), s4, s5, s6, .va false (prQ (rateQ n)), s8, s9, .va false (.list (vss.map tupP)), .va false (prQ v), x6, x7, .un, .un, .va false (tupP vs)]) →
      dLc [15, 16] (iSeq (dVar 10)) (.v 16) tYes e [s0, s1, s2, .va false (.int n), s4, s5, s6, .va false (prQ (rateQ n)), s8, s9, .va false (.list (vss.map tupP)), .va false (prQ v), x6, x7, .un, .un, .un] =
        .ok (.nw (.list ((vss.map g).map PyData.bool))) [s0, s1, s2, .va false (.int n), s4, s5, s6, .va false (prQ (rateQ n)), s8, s9, .va false (.list (vss.map tupP)), .va false (prQ v), x6, x7, .un, .un, .un] := fun e g x6 x7 he => by
    rw [List.map_map, lc_map tupP (fun vs => PyData.bool (g vs)) vss]
    · rfl
    · simp
    · rfl
    · intro vs hvs
      have := he vs hvs
      simp [this]
    · rw [hl]; decide
  have g3 := fun x6 x7 => lc F_law_c4 (judgeD n v) x6 x7 (fun vs hvs => by
    obtain ⟨T, R⟩ := hr vs hvs
    have j := law_days_ok R hn hv false false false
    generalize tupP vs = V at *
    simp only [prQ, prI] at *
    simp [F_law_c4, j])
  have g4 := fun x6 x7 => lc F_law_c5 (judgeL n v) x6 x7 (fun vs hvs => by
    obtain ⟨T, R⟩ := hr vs hvs
    have j := law_seasons_ok R hn hv false false false
    generalize tupP vs = V at *
    simp only [prQ, prI] at *
    simp [F_law_c5, j])
  have g5 := fun x6 x7 => lc F_law_c6 (judgeD n v) x6 x7 (fun vs hvs => by
    obtain ⟨T, R⟩ := hr vs hvs
    have j := judge_days_ok R hn hv false false false
    generalize tupP vs = V at *
    simp only [prQ, prI] at *
    simp [F_law_c6, j])
  have g6 := fun x6 x7 => lc F_law_c7 (judgeL n v) x6 x7 (fun vs hvs => by
    obtain ⟨T, R⟩ := hr vs hvs
    have j := judge_seasons_ok R hn hv false false false
    generalize tupP vs = V at *
    simp only [prQ, prI] at *
    simp [F_law_c7, j])
  have TT := tabOk hn
  have hs := (rate_bq hn).1
  have ab1 := above_qo (p := rateQ n) (q := v) (.inl hs) false false
  have ab2 := above_qo (p := v) (q := rateQ n) (.inl hv) false false
  have f1 := fIn_bools (vss.map (judgeD n v))
  have f2 := fIn_bools (vss.map (judgeL n v))
  have c1 : v < rateQ n → (vss.map (judgeD n v)).any id = false := fun h => by
    rw [← Bool.not_eq_true, List.any_eq_true]
    rintro ⟨b, hb, hb2⟩
    obtain ⟨vs, hvs, rfl⟩ := List.mem_map.mp hb
    have := dual hn hb2 TT.jl
    exact Rat.not_lt.mpr this h
  have c2 : rateQ n < v → (vss.map (judgeL n v)).any id = false := fun h => by
    rw [← Bool.not_eq_true, List.any_eq_true]
    rintro ⟨b, hb, hb2⟩
    obtain ⟨vs, hvs, rfl⟩ := List.mem_map.mp hb
    have := dual hn TT.jd hb2
    exact Rat.not_lt.mpr this h
  have sa1 := same_ok ((sm_bools (bs := vss.map (judgeD n v)) (by rw [List.length_map]; omega)).mono (k' := 63) (n' := 1048575) (by decide) (by decide)) false false
  have sa2 := same_ok ((sm_bools (bs := vss.map (judgeL n v)) (by rw [List.length_map]; omega)).mono (k' := 63) (n' := 1048575) (by decide) (by decide)) false false
  clear lc
  refine ⟨_, _, stb_va (.list ((vss.map (judgeD n v)).map PyData.bool)), stb_va (.list ((vss.map (judgeL n v)).map PyData.bool)), ?_⟩
  generalize (vss.map (judgeD n v)) = G1 at *
  generalize (vss.map (judgeL n v)) = G2 at *
  generalize rateQ n = S at *
  generalize G1.map PyData.bool = H1 at *
  generalize G2.map PyData.bool = H2 at *
  generalize vss.map tupP = VV at *
  by_cases h1 : v < S
  · have h2 : ¬ S < v := Rat.not_lt.mpr (Rat.le_of_lt h1)
    rw [c1 h1] at f1
    simp only [h1, decide_true] at ab1
    simp only [h2, decide_false] at ab2
    simp only [prQ, prI] at *
    simp [F_law_l8, g3, storeK_stb k12, g4, storeK_stb k13, g5, sa1, g6, sa2, ab1, f1, ab2]
  · simp only [h1, decide_false] at ab1
    by_cases h2 : S < v
    · rw [c2 h2] at f2
      simp only [h2, decide_true] at ab2
      simp only [prQ, prI] at *
      simp [F_law_l8, g3, storeK_stb k12, g4, storeK_stb k13, g5, sa1, g6, sa2, ab1, f2, ab2]
    · simp only [h2, decide_false] at ab2
      simp only [prQ, prI] at *
      simp [F_law_l8, g3, storeK_stb k12, g4, storeK_stb k13, g5, sa1, g6, sa2, ab1, ab2]
theorem near_bq {a b e : Int} (ha : 0 < a ∧ a ≤ 10000000000000) (hb : 1 ≤ b ∧ b ≤ 10000000000000) (he : e = 1 ∨ e = -1) : Bq (((a * 20 + e : Int) : Rat) / ((b * 20 : Int) : Rat)) := by
  obtain ⟨c1, c2, c3⟩ := fr_bd (a := a * 20 + e) (b := b * 20) (A := 300000000000000) (B := 300000000000000) (by omega) (by omega) (by omega) (by omega)
  rw [fr_rat (by omega)] at c1 c2 c3
  dsimp only at c1 c2 c3
  unfold Bq
  omega
theorem seg2 {n : Int} (hn : 1 ≤ n ∧ n ≤ 12) {vss : List (List (Int × Int))} (hl : vss.length = 12) (hr : ∀ vs ∈ vss, ∃ T, RowOk T vs) (s0 s1 s2 s4 s5 s6 s8 s9 s11 s12 s13 : Sl) (k11 : Stb s11) (k12 : Stb s12) (k13 : Stb s13) :
    ∃ t11 t12 t13, Stb t11 ∧ Stb t12 ∧ Stb t13 ∧ F_law_l9_t2 [s0, s1, s2, .va false (.int n), s4, s5, s6, .va false (prQ (rateQ n)), s8, s9, .va false (.list (vss.map tupP)), s11, s12, s13, .un, .un, .un] =
      .nx [s0, s1, s2, .va false (.int n), s4, s5, s6, .va false (prQ (rateQ n)), s8, s9, .va false (.list (vss.map tupP)), t11, t12, t13, .un, .un, .un] := by
  obtain ⟨rb, re, rn, rd⟩ := rate_bq hn
  have TT := tabOk hn
  obtain ⟨r1, r2, r3⟩ := TT.r2
  have r4 := TT.r1.1
  rw [← rn] at r1 r3
  rw [← rd] at r2 r4
  have m1 := fMul_i (i := (rateQ n).num) (j := 20) (.inr (by decide))
  have m2 := fMul_i (i := ((rateQ n).den : Int)) (j := 20) (.inr (by decide))
  have f1 := fractionQ (a := (rateQ n).num * 20 + 1) (b := ((rateQ n).den : Int) * 20) (by omega) (by omega) (by omega) false false
  have f2 := fractionQ (a := (rateQ n).num * 20 + -1) (b := ((rateQ n).den : Int) * 20) (by omega) (by omega) (by omega) false false
  rw [show (rateQ n).num * 20 + -1 = (rateQ n).num * 20 - 1 by omega] at f2
  have o1 := near_bq (a := (rateQ n).num) (b := ((rateQ n).den : Int)) (e := 1) ⟨r3, r1⟩ ⟨r4, r2⟩ (.inl rfl)
  have o2 := near_bq (a := (rateQ n).num) (b := ((rateQ n).den : Int)) (e := -1) ⟨r3, r1⟩ ⟨r4, r2⟩ (.inr rfl)
  rw [show (rateQ n).num * 20 + -1 = (rateQ n).num * 20 - 1 by omega] at o2
  obtain ⟨a6, a7, ka6, ka7, va⟩ := value_turn hn rb hl hr s0 s1 s2 s4 s5 s6 s8 s9 s12 s13 k12 k13
  obtain ⟨b6, b7, kb6, kb7, vb⟩ := value_turn hn (bq_int (c := 2) (by decide)) hl hr s0 s1 s2 s4 s5 s6 s8 s9 a6 a7 ka6 ka7
  obtain ⟨c6, c7, kc6, kc7, vc⟩ := value_turn hn o1 hl hr s0 s1 s2 s4 s5 s6 s8 s9 b6 b7 kb6 kb7
  obtain ⟨d6, d7, kd6, kd7, vd⟩ := value_turn hn o2 hl hr s0 s1 s2 s4 s5 s6 s8 s9 c6 c7 kc6 kc7
  have hh : prQ ((2 : Int) : Rat) = .tuple [.int 2, .int 1] := by kernel_rfl
  rw [hh] at vb
  generalize ((((rateQ n).num * 20 + 1 : Int) : Rat) / ((((rateQ n).den : Int) * 20 : Int) : Rat)) = V1 at *
  generalize ((((rateQ n).num * 20 - 1 : Int) : Rat) / ((((rateQ n).den : Int) * 20 : Int) : Rat)) = V2 at *
  generalize rateQ n = S at *
  generalize vss.map tupP = VV at *
  refine ⟨.va false (prQ V2), d6, d7, stb_va _, kd6, kd7, ?_⟩
  have hloop : forL (.v 11) F_law_l8 [prQ S, .tuple [.int 2, .int 1], prQ V1, prQ V2] [s0, s1, s2, .va false (.int n), s4, s5, s6, .va false (prQ S), s8, s9, .va false (.list VV), s11, s12, s13, .un, .un, .un] =
      .nx [s0, s1, s2, .va false (.int n), s4, s5, s6, .va false (prQ S), s8, s9, .va false (.list VV), .va false (prQ V2), d6, d7, .un, .un, .un] := by
    simp only [prQ, prI] at *
    rw [forL_c]
    simp [storeK_stb k11, va]
    rw [forL_c]
    simp [vb]
    rw [forL_c]
    simp [vc]
    rw [forL_c]
    simp [vd, forL_n]
  simp only [prQ, prI] at *
  simp [F_law_l9_t2, m1, m2, f1, f2, hloop, lim]
theorem err1 : F_mixed_ratio [.va false (.int 0)] = .ex NA [.va false (.int 0)] := by kernel_rfl
theorem err2 : F_mixed_days [.va false (.int 13)] = .ex NA [.va false (.int 13)] := by kernel_rfl
theorem err3 : F_hard_seasons [.va false (.int (-1))] = .ex NA [.va false (.int (-1))] := by kernel_rfl
theorem err4 : F_judge_days [.va false (.int 2), .va false (.tuple [.int 2, .int 4]), .va false (.tuple [.tuple [.int 1, .int 1]])] = .ex NA [.va false (.int 2), .va false (.tuple [.int 2, .int 4]), .va false (.tuple [.tuple [.int 1, .int 1]])] := by kernel_rfl
theorem err5 : F_judge_seasons [.va false (.int 0), .va false (.tuple [.int 1, .int 1]), .va false (.tuple [])] = .ex NA [.va false (.int 0), .va false (.tuple [.int 1, .int 1]), .va false (.tuple [])] := by kernel_rfl
abbrev REF : D := .tuple [.str (Str.ofString "refused")]
theorem eq_refused5 : fEq (.list [REF, REF, REF, REF, REF]) (.list [REF, REF, REF, REF, REF]) = some (.va (.bool true)) := by kernel_rfl
theorem fMul_5 : fMul (.list [REF]) (.int 5) = some (.nw (.list [REF, REF, REF, REF, REF])) := by kernel_rfl
/-- the frame of the law's turns -/
def TU (ns : List Int) (sc : D) (c : Int) (r : SE.Env) : Prop := ∃ s2 s3 s4 s5 s6 s7 s8 s9 s10 s11 s12 s13, r = [.va false sc, .ow false false (stD ns c), s2, s3, s4, s5, s6, s7, s8, s9, s10, s11, s12, s13, .un, .un, .un] ∧
  Stb s2 ∧ Stb s3 ∧ Stb s4 ∧ Stb s5 ∧ Nw s6 ∧ Stb s7 ∧ Stb s8 ∧ Stb s9 ∧ Stb s10 ∧ Stb s11 ∧ Stb s12 ∧ Stb s13
theorem turn_ok {ns : List Int} (W : Wf ns) (sc : D) {c : Int} (h0 : 0 ≤ c) (h1 : c < 800000) {r : SE.Env} (hr : TU ns sc c r) : ∃ c' r', F_law_l9 r = .nx r' ∧ TU ns sc c' r' ∧ c ≤ c' ∧ c' ≤ c + 100 := by
  obtain ⟨s2, s3, s4, s5, s6, s7, s8, s9, s10, s11, s12, s13, rfl, k2, k3, k4, k5, k6, k7, k8, k9, k10, k11, k12, k13⟩ := hr
  rw [F_law_l9_seg]
  obtain ⟨n, d4, d5, t6, hn, j6, a1⟩ := seg0 W h0 (by omega) F_law_l9_t1 (.va false sc) s2 s3 s4 s5 s6 s7 s8 s9 s10 s11 s12 s13 k3 k4 k5 k6 k7 k8 k9
  rw [a1]
  unfold F_law_l9_t1
  obtain ⟨vss, hl, hR, a2⟩ := seg1 W (c := c + 1) (by omega) (by omega) F_law_l9_t2 hn (.va false sc) s2 (.va false d4) (.va false d5) t6 (.va false (prQ (rateQ n))) s10 s11 s12 s13 j6 k10
  rw [a2]
  obtain ⟨t11, t12, t13, j11, j12, j13, a3⟩ := seg2 hn hl hR (.va false sc) (.ow false false (stD ns (c + 1 + 32))) s2 (.va false d4) (.va false d5) t6 (.va false (tupP (dayP n.toNat))) (.va false (tupP (lenP n.toNat))) s11 s12 s13 k11 k12 k13
  exact ⟨c + 1 + 32, _, a3, ⟨_, _, _, _, _, _, _, _, _, _, _, _, rfl, k2, stb_va _, stb_va _, stb_va _, j6, stb_va _, stb_va _, stb_va _, stb_va _, j11, j12, j13⟩, by omega, by omega⟩
theorem turns_ok {ns : List Int} (W : Wf ns) (sc : D) : ∀ (n : Nat) (k : Int) (c : Int) (r : SE.Env), 0 ≤ c → c + 100 * n < 800000 → TU ns sc c r → ∃ c' r', forL (.v 2) F_law_l9 (rng k n) r = .nx r' ∧ TU ns sc c' r'
  | 0, k, c, r, h0, h1, h => ⟨c, r, rfl, h⟩
  | n + 1, k, c, r, h0, h1, h => by
    obtain ⟨s2, s3, s4, s5, s6, s7, s8, s9, s10, s11, s12, s13, rfl, k2, kk⟩ := h
    obtain ⟨c1, r1, a1, a2, a3, a4⟩ := turn_ok W sc (c := c) h0 (by omega) (r := [.va false sc, .ow false false (stD ns c), .va false (.int k), s3, s4, s5, s6, s7, s8, s9, s10, s11, s12, s13, .un, .un, .un]) ⟨_, s3, s4, s5, s6, s7, s8, s9, s10, s11, s12, s13, rfl, stb_va _, kk⟩
    obtain ⟨c', r', b1, b2⟩ := turns_ok W sc n (k + 1) c1 r1 (by omega) (by omega) a2
    refine ⟨c', r', ?_, b2⟩
    rw [rng_succ, forL_c, ← b1]
    simp [storeK_stb k2, a1]
theorem law_true (xs : List Int) (h : xs.length ≤ 63) : ∃ r, F_law [.va false (.list (xs.map PyData.int))] = .ok (.va (.bool true)) r := by
  obtain ⟨ns, W, hs⟩ := stream_ok false xs h
  obtain ⟨c', r', b1, s2, s3, s4, s5, s6, s7, s8, s9, s10, s11, s12, s13, rfl, _⟩ := turns_ok W (.list (xs.map PyData.int)) 3 0 0 (.va false (.list (xs.map PyData.int)) :: .ow false false (stD ns 0) :: List.replicate 15 .un) (by decide) (by decide)
    ⟨_, _, _, _, _, _, _, _, _, _, _, _, rfl, trivial, trivial, trivial, trivial, trivial, trivial, trivial, trivial, trivial, trivial, trivial, trivial⟩
  have e : PyData.list [PyData.list (List.map PyData.int ns), PyData.int 0] = stD ns 0 := rfl
  simp at b1
  simp [F_law, hs, lim, e, b1, err1, err2, err3, err4, err5, toldK_ex kf_refused, fMul_5, eq_refused5]
end K57
set_option Elab.async false
set_option linter.all false
set_option maxRecDepth 100000
set_option maxHeartbeats 0
namespace K57
open PySem PySem.Spec PyProof.Rows L2 SE
abbrev RR : PySem.W.OpenRow := PySem.W.OpenLaw.row PySem.Challenge.rw_rivalwise_k57_whole_mixed_days
def prm (s : Stmt) : Arguments := match s with
  | .FunctionDef _ a _ _ _ _ _ _ _ _ => a
  | _ => ⟨[], [], none, [], [], none, []⟩
def fns : List He.DefD := [dD (Str.ofString "divisor") (prm (topS 8)) d_divisor, dD (Str.ofString "ratio") (prm (topS 9)) d_ratio, dD (Str.ofString "check_times") (prm (topS 17)) d_check_times, dD (Str.ofString "times") (prm (topS 12)) d_times, dD (Str.ofString "shrunk") (prm (topS 18)) d_shrunk, dD (Str.ofString "mixed_ratio") (prm (topS 19)) d_mixed_ratio, dD (Str.ofString "mixed_days") (prm (topS 20)) d_mixed_days, dD (Str.ofString "is_ratio") (prm (topS 10)) d_is_ratio, dD (Str.ofString "less") (prm (topS 13)) d_less, dD (Str.ofString "added") (prm (topS 11)) d_added, dD (Str.ofString "mean_cost") (prm (topS 21)) d_mean_cost, dD (Str.ofString "summed") (prm (topS 22)) d_summed, dD (Str.ofString "are_chances") (prm (topS 23)) d_are_chances, dD (Str.ofString "judge_days") (prm (topS 24)) d_judge_days, dD (Str.ofString "hard_seasons") (prm (topS 25)) d_hard_seasons, dD (Str.ofString "day_cost") (prm (topS 27)) d_day_cost, dD (Str.ofString "judge_seasons") (prm (topS 26)) d_judge_seasons, dD (Str.ofString "_law_same") (prm (topS 29)) d__law_same, dD (Str.ofString "_law_stream") (prm (topS 30)) d__law_stream, dD (Str.ofString "_law_next") (prm (topS 31)) d__law_next, dD (Str.ofString "_law_told") (prm (topS 32)) d__law_told, dD (Str.ofString "_law_gcd") (prm (topS 33)) d__law_gcd, dD (Str.ofString "_law_fraction") (prm (topS 34)) d__law_fraction, dD (Str.ofString "_law_above") (prm (topS 37)) d__law_above, dD (Str.ofString "_law_plus") (prm (topS 35)) d__law_plus, dD (Str.ofString "_law_times") (prm (topS 36)) d__law_times, dD (Str.ofString "_law_are_chances") (prm (topS 38)) d__law_are_chances, dD (Str.ofString "_law_days_fit") (prm (topS 39)) d__law_days_fit, dD (Str.ofString "_law_lengths_fit") (prm (topS 40)) d__law_lengths_fit, dD (Str.ofString "_law_bent") (prm (topS 41)) d__law_bent, dD (Str.ofString "law") (prm (topS 42)) d_law]
def fas : List He.Fa := [.glo (Str.ofString "divisor"), .glo (Str.ofString "ratio"), .glo (Str.ofString "check_times"), .glo (Str.ofString "times"), .glo (Str.ofString "shrunk"), .glo (Str.ofString "mixed_ratio"), .glo (Str.ofString "mixed_days"), .glo (Str.ofString "is_ratio"), .glo (Str.ofString "less"), .glo (Str.ofString "added"), .glo (Str.ofString "mean_cost"), .glo (Str.ofString "summed"), .glo (Str.ofString "are_chances"), .glo (Str.ofString "judge_days"), .glo (Str.ofString "hard_seasons"), .glo (Str.ofString "day_cost"), .glo (Str.ofString "judge_seasons"), .glo (Str.ofString "_law_same"), .glo (Str.ofString "_law_stream"), .glo (Str.ofString "_law_next"), .glo (Str.ofString "_law_told"), .glo (Str.ofString "_law_gcd"), .glo (Str.ofString "_law_fraction"), .glo (Str.ofString "_law_above"), .glo (Str.ofString "_law_plus"), .glo (Str.ofString "_law_times"), .glo (Str.ofString "_law_are_chances"), .glo (Str.ofString "_law_days_fit"), .glo (Str.ofString "_law_lengths_fit"), .glo (Str.ofString "_law_bent"), .glo (Str.ofString "law"), .free (Str.ofString "len"), .free (Str.ofString "abs"), .free (Str.ofString "int"), .free (Str.ofString "min"), .free (Str.ofString "max"), .free (Str.ofString "all"), .free (Str.ofString "tuple"), .free (Str.ofString "list"), .free (Str.ofString "repr"), .free (Str.ofString "range"), .free (Str.ofString "enumerate"), .free (Str.ofString "zip"), .free (Str.ofString "isinstance"), .int (Str.ofString "MAX_DAY") 40, .int (Str.ofString "MAX_TIMES") 12]
def ex (K : PySem.W.Frag) : Bool := excAll K excs
abbrev hk : PySem.W.Hook := He.hookX 4 fas fns [] [((Str.ofString "law"), none)] ex
def ob (s : PySem.W.SharedT) : He.AlX := He.obsX 4 fas fns [] [((Str.ofString "law"), none)] ex (HandSHeadRun.getT s)
theorem ob_eq (s : PySem.W.SharedT) : ob s = hk.obs s.abs := He.obsX_eq (HandSHeadRun.getT_eq s)
def loose0 : List Str := [(Str.ofString "RivalError"), (Str.ofString "NotAllowed"), (Str.ofString "TooLarge"), (Str.ofString "Missing"), (Str.ofString "BadForm"), (Str.ofString "Broken"), (Str.ofString "divisor"), (Str.ofString "ratio"), (Str.ofString "is_ratio"), (Str.ofString "added"), (Str.ofString "times"), (Str.ofString "less"), (Str.ofString "MAX_DAY"), (Str.ofString "MAX_TIMES"), (Str.ofString "check_times"), (Str.ofString "shrunk"), (Str.ofString "mixed_ratio"), (Str.ofString "mixed_days"), (Str.ofString "mean_cost"), (Str.ofString "summed"), (Str.ofString "are_chances"), (Str.ofString "judge_days"), (Str.ofString "hard_seasons"), (Str.ofString "judge_seasons"), (Str.ofString "day_cost"), (Str.ofString "_law_same"), (Str.ofString "_law_stream"), (Str.ofString "_law_next"), (Str.ofString "_law_told"), (Str.ofString "_law_gcd")]
def loose1 : List Str := [(Str.ofString "_law_fraction"), (Str.ofString "_law_plus"), (Str.ofString "_law_times"), (Str.ofString "_law_above"), (Str.ofString "_law_are_chances"), (Str.ofString "_law_days_fit"), (Str.ofString "_law_lengths_fit"), (Str.ofString "_law_bent")]
def loose : List Str := loose0 ++ loose1
theorem run (w : World) : HandSHeadRun.RunEq RR (PySem.W.view RR.prog [42]) hk ob 6000 loose w := by
  intro os
  kernel_rfl
theorem ok_divisor : dfOk d_divisor = true := by kernel_rfl
theorem ps_divisor : d_divisor.ps = [(Str.ofString "first"), (Str.ofString "second")] := by kernel_rfl
theorem ok_ratio : dfOk d_ratio = true := by kernel_rfl
theorem ps_ratio : d_ratio.ps = [(Str.ofString "top"), (Str.ofString "below")] := by kernel_rfl
theorem ok_check_times : dfOk d_check_times = true := by kernel_rfl
theorem ps_check_times : d_check_times.ps = [(Str.ofString "many")] := by kernel_rfl
theorem ok_times : dfOk d_times = true := by kernel_rfl
theorem ps_times : d_times.ps = [(Str.ofString "first"), (Str.ofString "second")] := by kernel_rfl
theorem ok_shrunk : dfOk d_shrunk = true := by kernel_rfl
theorem ps_shrunk : d_shrunk.ps = [(Str.ofString "many"), (Str.ofString "turn")] := by kernel_rfl
theorem ok_mixed_ratio : dfOk d_mixed_ratio = true := by kernel_rfl
theorem ps_mixed_ratio : d_mixed_ratio.ps = [(Str.ofString "many")] := by kernel_rfl
theorem ok_mixed_days : dfOk d_mixed_days = true := by kernel_rfl
theorem ps_mixed_days : d_mixed_days.ps = [(Str.ofString "many")] := by kernel_rfl
theorem ok_is_ratio : dfOk d_is_ratio = true := by kernel_rfl
theorem ps_is_ratio : d_is_ratio.ps = [(Str.ofString "value")] := by kernel_rfl
theorem ok_less : dfOk d_less = true := by kernel_rfl
theorem ps_less : d_less.ps = [(Str.ofString "first"), (Str.ofString "second")] := by kernel_rfl
theorem ok_added : dfOk d_added = true := by kernel_rfl
theorem ps_added : d_added.ps = [(Str.ofString "first"), (Str.ofString "second")] := by kernel_rfl
theorem ok_mean_cost : dfOk d_mean_cost = true := by kernel_rfl
theorem ps_mean_cost : d_mean_cost.ps = [(Str.ofString "many"), (Str.ofString "chances"), (Str.ofString "days")] := by kernel_rfl
theorem ok_summed : dfOk d_summed = true := by kernel_rfl
theorem ps_summed : d_summed.ps = [(Str.ofString "chances")] := by kernel_rfl
theorem ok_are_chances : dfOk d_are_chances = true := by kernel_rfl
theorem ps_are_chances : d_are_chances.ps = [(Str.ofString "chances")] := by kernel_rfl
theorem ok_judge_days : dfOk d_judge_days = true := by kernel_rfl
theorem ps_judge_days : d_judge_days.ps = [(Str.ofString "many"), (Str.ofString "rate"), (Str.ofString "chances")] := by kernel_rfl
theorem ok_hard_seasons : dfOk d_hard_seasons = true := by kernel_rfl
theorem ps_hard_seasons : d_hard_seasons.ps = [(Str.ofString "many")] := by kernel_rfl
theorem ok_day_cost : dfOk d_day_cost = true := by kernel_rfl
theorem ps_day_cost : d_day_cost.ps = [(Str.ofString "many"), (Str.ofString "chances"), (Str.ofString "day")] := by kernel_rfl
theorem ok_judge_seasons : dfOk d_judge_seasons = true := by kernel_rfl
theorem ps_judge_seasons : d_judge_seasons.ps = [(Str.ofString "many"), (Str.ofString "rate"), (Str.ofString "chances")] := by kernel_rfl
theorem ok__law_same : dfOk d__law_same = true := by kernel_rfl
theorem ps__law_same : d__law_same.ps = [(Str.ofString "told"), (Str.ofString "due")] := by kernel_rfl
theorem ok__law_stream : dfOk d__law_stream = true := by kernel_rfl
theorem ps__law_stream : d__law_stream.ps = [(Str.ofString "script")] := by kernel_rfl
theorem ok__law_next : dfOk d__law_next = true := by kernel_rfl
theorem ps__law_next : d__law_next.ps = [(Str.ofString "state"), (Str.ofString "many")] := by kernel_rfl
theorem ok__law_told : dfOk d__law_told = true := by kernel_rfl
theorem ps__law_told : d__law_told.ps = [(Str.ofString "call")] := by kernel_rfl
theorem ok__law_gcd : dfOk d__law_gcd = true := by kernel_rfl
theorem ps__law_gcd : d__law_gcd.ps = [(Str.ofString "one"), (Str.ofString "other")] := by kernel_rfl
theorem ok__law_fraction : dfOk d__law_fraction = true := by kernel_rfl
theorem ps__law_fraction : d__law_fraction.ps = [(Str.ofString "top"), (Str.ofString "below")] := by kernel_rfl
theorem ok__law_above : dfOk d__law_above = true := by kernel_rfl
theorem ps__law_above : d__law_above.ps = [(Str.ofString "one"), (Str.ofString "other")] := by kernel_rfl
theorem ok__law_plus : dfOk d__law_plus = true := by kernel_rfl
theorem ps__law_plus : d__law_plus.ps = [(Str.ofString "one"), (Str.ofString "other")] := by kernel_rfl
theorem ok__law_times : dfOk d__law_times = true := by kernel_rfl
theorem ps__law_times : d__law_times.ps = [(Str.ofString "one"), (Str.ofString "other")] := by kernel_rfl
theorem ok__law_are_chances : dfOk d__law_are_chances = true := by kernel_rfl
theorem ps__law_are_chances : d__law_are_chances.ps = [(Str.ofString "row")] := by kernel_rfl
theorem ok__law_days_fit : dfOk d__law_days_fit = true := by kernel_rfl
theorem ps__law_days_fit : d__law_days_fit.ps = [(Str.ofString "many"), (Str.ofString "rate"), (Str.ofString "row")] := by kernel_rfl
theorem ok__law_lengths_fit : dfOk d__law_lengths_fit = true := by kernel_rfl
theorem ps__law_lengths_fit : d__law_lengths_fit.ps = [(Str.ofString "many"), (Str.ofString "rate"), (Str.ofString "row")] := by kernel_rfl
theorem ok__law_bent : dfOk d__law_bent = true := by kernel_rfl
theorem ps__law_bent : d__law_bent.ps = [(Str.ofString "state"), (Str.ofString "row")] := by kernel_rfl
theorem ok_law : dfOk d_law = true := by kernel_rfl
theorem ps_law : d_law.ps = [(Str.ofString "script")] := by kernel_rfl
section
variable {P : Program} {w : World} {K : PySem.W.Frag} {mg : Str → Option Value} {base h : Heap}
theorem goks (X : K.In h) (G : h.Ns mainGlobals mg) (T : List (Addr × Str)) (S : He.SaysX fas fns [] [((Str.ofString "law"), none)] ex w h K) : GOk P w K mg base T gl45 29 := by
  have sx : ex K = true := S.more
  have g0 : GOk P w K mg base T gl0 0 := gok_excs X G sx
  have gx : ∀ i x, fas[i]? = some (He.Fa.glo x) → mg x = some (.ref (He.ga K x)) := fun i x hx => He.glo_ok X G (S.t.d.fact i hx)
  have g1 : GOk P w K mg base T gl1 0 := gok_blt g0 (He.free_ok X G (S.t.d.fact 31 (f := .free (Str.ofString "len"))))
  have g2 : GOk P w K mg base T gl2 0 := gok_blt g1 (He.free_ok X G (S.t.d.fact 32 (f := .free (Str.ofString "abs"))))
  have g3 : GOk P w K mg base T gl3 0 := gok_blt g2 (He.free_ok X G (S.t.d.fact 33 (f := .free (Str.ofString "int"))))
  have g4 : GOk P w K mg base T gl4 0 := gok_blt g3 (He.free_ok X G (S.t.d.fact 34 (f := .free (Str.ofString "min"))))
  have g5 : GOk P w K mg base T gl5 0 := gok_blt g4 (He.free_ok X G (S.t.d.fact 35 (f := .free (Str.ofString "max"))))
  have g6 : GOk P w K mg base T gl6 0 := gok_blt g5 (He.free_ok X G (S.t.d.fact 36 (f := .free (Str.ofString "all"))))
  have g7 : GOk P w K mg base T gl7 0 := gok_blt g6 (He.free_ok X G (S.t.d.fact 37 (f := .free (Str.ofString "tuple"))))
  have g8 : GOk P w K mg base T gl8 0 := gok_blt g7 (He.free_ok X G (S.t.d.fact 38 (f := .free (Str.ofString "list"))))
  have g9 : GOk P w K mg base T gl9 0 := gok_blt g8 (He.free_ok X G (S.t.d.fact 39 (f := .free (Str.ofString "repr"))))
  have g10 : GOk P w K mg base T gl10 0 := gok_blt g9 (He.free_ok X G (S.t.d.fact 40 (f := .free (Str.ofString "range"))))
  have g11 : GOk P w K mg base T gl11 0 := gok_blt g10 (He.free_ok X G (S.t.d.fact 41 (f := .free (Str.ofString "enumerate"))))
  have g12 : GOk P w K mg base T gl12 0 := gok_blt g11 (He.free_ok X G (S.t.d.fact 42 (f := .free (Str.ofString "zip"))))
  have g13 : GOk P w K mg base T gl13 0 := gok_blt g12 (He.free_ok X G (S.t.d.fact 43 (f := .free (Str.ofString "isinstance"))))
  obtain ⟨t13, ht13⟩ := He.int_ok X G (S.t.d.fact 44 (f := .int (Str.ofString "MAX_DAY") 40))
  have g14 : GOk P w K mg base T gl14 0 := gok_int g13 ht13
  obtain ⟨t14, ht14⟩ := He.int_ok X G (S.t.d.fact 45 (f := .int (Str.ofString "MAX_TIMES") 12))
  have g15 : GOk P w K mg base T gl15 0 := gok_int g14 ht14
  obtain ⟨fd15, D15⟩ := S.t.d.def_ 0 (d := dD (Str.ofString "divisor") (prm (topS 8)) d_divisor)
  have g16 : GOk P w K mg base T gl16 1 := gok_fnD g15 D15 (gx 0 _ rfl) ok_divisor m_divisor ps_divisor rfl (fun _ _ _ _ _ _ us hl => match us, hl with | [_, _], _ => rfl)
  obtain ⟨fd16, D16⟩ := S.t.d.def_ 1 (d := dD (Str.ofString "ratio") (prm (topS 9)) d_ratio)
  have g17 : GOk P w K mg base T gl17 2 := gok_fnD g16 D16 (gx 1 _ rfl) ok_ratio m_ratio ps_ratio rfl (fun _ _ _ _ _ _ us hl => match us, hl with | [_, _], _ => rfl)
  obtain ⟨fd17, D17⟩ := S.t.d.def_ 2 (d := dD (Str.ofString "check_times") (prm (topS 17)) d_check_times)
  have g18 : GOk P w K mg base T gl18 3 := gok_fnD g17 D17 (gx 2 _ rfl) ok_check_times m_check_times ps_check_times rfl (fun _ _ _ _ _ _ us hl => match us, hl with | [_], _ => rfl)
  obtain ⟨fd18, D18⟩ := S.t.d.def_ 3 (d := dD (Str.ofString "times") (prm (topS 12)) d_times)
  have g19 : GOk P w K mg base T gl19 4 := gok_fnD g18 D18 (gx 3 _ rfl) ok_times m_times ps_times rfl (fun _ _ _ _ _ _ us hl => match us, hl with | [_, _], _ => rfl)
  obtain ⟨fd19, D19⟩ := S.t.d.def_ 4 (d := dD (Str.ofString "shrunk") (prm (topS 18)) d_shrunk)
  have g20 : GOk P w K mg base T gl20 5 := gok_fnD g19 D19 (gx 4 _ rfl) ok_shrunk m_shrunk ps_shrunk rfl (fun _ _ _ _ _ _ us hl => match us, hl with | [_, _], _ => rfl)
  obtain ⟨fd20, D20⟩ := S.t.d.def_ 5 (d := dD (Str.ofString "mixed_ratio") (prm (topS 19)) d_mixed_ratio)
  have g21 : GOk P w K mg base T gl21 6 := gok_fnD g20 D20 (gx 5 _ rfl) ok_mixed_ratio m_mixed_ratio ps_mixed_ratio rfl (fun _ _ _ _ _ _ us hl => match us, hl with | [_], _ => rfl)
  obtain ⟨fd21, D21⟩ := S.t.d.def_ 6 (d := dD (Str.ofString "mixed_days") (prm (topS 20)) d_mixed_days)
  have g22 : GOk P w K mg base T gl22 7 := gok_fnD g21 D21 (gx 6 _ rfl) ok_mixed_days m_mixed_days ps_mixed_days rfl (fun _ _ _ _ _ _ us hl => match us, hl with | [_], _ => rfl)
  obtain ⟨fd22, D22⟩ := S.t.d.def_ 7 (d := dD (Str.ofString "is_ratio") (prm (topS 10)) d_is_ratio)
  have g23 : GOk P w K mg base T gl23 8 := gok_fnD g22 D22 (gx 7 _ rfl) ok_is_ratio m_is_ratio ps_is_ratio rfl (fun _ _ _ _ _ _ us hl => match us, hl with | [_], _ => rfl)
  obtain ⟨fd23, D23⟩ := S.t.d.def_ 8 (d := dD (Str.ofString "less") (prm (topS 13)) d_less)
  have g24 : GOk P w K mg base T gl24 9 := gok_fnD g23 D23 (gx 8 _ rfl) ok_less m_less ps_less rfl (fun _ _ _ _ _ _ us hl => match us, hl with | [_, _], _ => rfl)
  obtain ⟨fd24, D24⟩ := S.t.d.def_ 9 (d := dD (Str.ofString "added") (prm (topS 11)) d_added)
  have g25 : GOk P w K mg base T gl25 10 := gok_fnD g24 D24 (gx 9 _ rfl) ok_added m_added ps_added rfl (fun _ _ _ _ _ _ us hl => match us, hl with | [_, _], _ => rfl)
  obtain ⟨fd25, D25⟩ := S.t.d.def_ 10 (d := dD (Str.ofString "mean_cost") (prm (topS 21)) d_mean_cost)
  have g26 : GOk P w K mg base T gl26 11 := gok_fnD g25 D25 (gx 10 _ rfl) ok_mean_cost m_mean_cost ps_mean_cost rfl (fun _ _ _ _ _ _ us hl => match us, hl with | [_, _, _], _ => rfl)
  obtain ⟨fd26, D26⟩ := S.t.d.def_ 11 (d := dD (Str.ofString "summed") (prm (topS 22)) d_summed)
  have g27 : GOk P w K mg base T gl27 12 := gok_fnD g26 D26 (gx 11 _ rfl) ok_summed m_summed ps_summed rfl (fun _ _ _ _ _ _ us hl => match us, hl with | [_], _ => rfl)
  obtain ⟨fd27, D27⟩ := S.t.d.def_ 12 (d := dD (Str.ofString "are_chances") (prm (topS 23)) d_are_chances)
  have g28 : GOk P w K mg base T gl28 13 := gok_fnD g27 D27 (gx 12 _ rfl) ok_are_chances m_are_chances ps_are_chances rfl (fun _ _ _ _ _ _ us hl => match us, hl with | [_], _ => rfl)
  obtain ⟨fd28, D28⟩ := S.t.d.def_ 13 (d := dD (Str.ofString "judge_days") (prm (topS 24)) d_judge_days)
  have g29 : GOk P w K mg base T gl29 14 := gok_fnD g28 D28 (gx 13 _ rfl) ok_judge_days m_judge_days ps_judge_days rfl (fun _ _ _ _ _ _ us hl => match us, hl with | [_, _, _], _ => rfl)
  obtain ⟨fd29, D29⟩ := S.t.d.def_ 14 (d := dD (Str.ofString "hard_seasons") (prm (topS 25)) d_hard_seasons)
  have g30 : GOk P w K mg base T gl30 15 := gok_fnD g29 D29 (gx 14 _ rfl) ok_hard_seasons m_hard_seasons ps_hard_seasons rfl (fun _ _ _ _ _ _ us hl => match us, hl with | [_], _ => rfl)
  obtain ⟨fd30, D30⟩ := S.t.d.def_ 15 (d := dD (Str.ofString "day_cost") (prm (topS 27)) d_day_cost)
  have g31 : GOk P w K mg base T gl31 16 := gok_fnD g30 D30 (gx 15 _ rfl) ok_day_cost m_day_cost ps_day_cost rfl (fun _ _ _ _ _ _ us hl => match us, hl with | [_, _, _], _ => rfl)
  obtain ⟨fd31, D31⟩ := S.t.d.def_ 16 (d := dD (Str.ofString "judge_seasons") (prm (topS 26)) d_judge_seasons)
  have g32 : GOk P w K mg base T gl32 17 := gok_fnD g31 D31 (gx 16 _ rfl) ok_judge_seasons m_judge_seasons ps_judge_seasons rfl (fun _ _ _ _ _ _ us hl => match us, hl with | [_, _, _], _ => rfl)
  obtain ⟨fd32, D32⟩ := S.t.d.def_ 17 (d := dD (Str.ofString "_law_same") (prm (topS 29)) d__law_same)
  have g33 : GOk P w K mg base T gl33 18 := gok_fnD g32 D32 (gx 17 _ rfl) ok__law_same m__law_same ps__law_same rfl (fun _ _ _ _ _ _ us hl => match us, hl with | [_, _], _ => rfl)
  obtain ⟨fd33, D33⟩ := S.t.d.def_ 18 (d := dD (Str.ofString "_law_stream") (prm (topS 30)) d__law_stream)
  have g34 : GOk P w K mg base T gl34 19 := gok_fnD g33 D33 (gx 18 _ rfl) ok__law_stream m__law_stream ps__law_stream rfl (fun _ _ _ _ _ _ us hl => match us, hl with | [_], _ => rfl)
  obtain ⟨fd34, D34⟩ := S.t.d.def_ 19 (d := dD (Str.ofString "_law_next") (prm (topS 31)) d__law_next)
  have g35 : GOk P w K mg base T gl35 20 := gok_fnD g34 D34 (gx 19 _ rfl) ok__law_next m__law_next ps__law_next rfl (fun _ _ _ _ _ _ us hl => match us, hl with | [_, _], _ => rfl)
  obtain ⟨fd35, D35⟩ := S.t.d.def_ 20 (d := dD (Str.ofString "_law_told") (prm (topS 32)) d__law_told)
  have g36 : GOk P w K mg base T gl36 20 := gok_toldD g35 D35 (gx 20 _ rfl) ok__law_told m_told ps__law_told (by decide +kernel) (fun _ _ _ _ _ _ us hl => match us, hl with | [_], _ => rfl)
  obtain ⟨fd36, D36⟩ := S.t.d.def_ 21 (d := dD (Str.ofString "_law_gcd") (prm (topS 33)) d__law_gcd)
  have g37 : GOk P w K mg base T gl37 21 := gok_fnD g36 D36 (gx 21 _ rfl) ok__law_gcd m__law_gcd ps__law_gcd rfl (fun _ _ _ _ _ _ us hl => match us, hl with | [_, _], _ => rfl)
  obtain ⟨fd37, D37⟩ := S.t.d.def_ 22 (d := dD (Str.ofString "_law_fraction") (prm (topS 34)) d__law_fraction)
  have g38 : GOk P w K mg base T gl38 22 := gok_fnD g37 D37 (gx 22 _ rfl) ok__law_fraction m__law_fraction ps__law_fraction rfl (fun _ _ _ _ _ _ us hl => match us, hl with | [_, _], _ => rfl)
  obtain ⟨fd38, D38⟩ := S.t.d.def_ 23 (d := dD (Str.ofString "_law_above") (prm (topS 37)) d__law_above)
  have g39 : GOk P w K mg base T gl39 23 := gok_fnD g38 D38 (gx 23 _ rfl) ok__law_above m__law_above ps__law_above rfl (fun _ _ _ _ _ _ us hl => match us, hl with | [_, _], _ => rfl)
  obtain ⟨fd39, D39⟩ := S.t.d.def_ 24 (d := dD (Str.ofString "_law_plus") (prm (topS 35)) d__law_plus)
  have g40 : GOk P w K mg base T gl40 24 := gok_fnD g39 D39 (gx 24 _ rfl) ok__law_plus m__law_plus ps__law_plus rfl (fun _ _ _ _ _ _ us hl => match us, hl with | [_, _], _ => rfl)
  obtain ⟨fd40, D40⟩ := S.t.d.def_ 25 (d := dD (Str.ofString "_law_times") (prm (topS 36)) d__law_times)
  have g41 : GOk P w K mg base T gl41 25 := gok_fnD g40 D40 (gx 25 _ rfl) ok__law_times m__law_times ps__law_times rfl (fun _ _ _ _ _ _ us hl => match us, hl with | [_, _], _ => rfl)
  obtain ⟨fd41, D41⟩ := S.t.d.def_ 26 (d := dD (Str.ofString "_law_are_chances") (prm (topS 38)) d__law_are_chances)
  have g42 : GOk P w K mg base T gl42 26 := gok_fnD g41 D41 (gx 26 _ rfl) ok__law_are_chances m__law_are_chances ps__law_are_chances rfl (fun _ _ _ _ _ _ us hl => match us, hl with | [_], _ => rfl)
  obtain ⟨fd42, D42⟩ := S.t.d.def_ 27 (d := dD (Str.ofString "_law_days_fit") (prm (topS 39)) d__law_days_fit)
  have g43 : GOk P w K mg base T gl43 27 := gok_fnD g42 D42 (gx 27 _ rfl) ok__law_days_fit m__law_days_fit ps__law_days_fit rfl (fun _ _ _ _ _ _ us hl => match us, hl with | [_, _, _], _ => rfl)
  obtain ⟨fd43, D43⟩ := S.t.d.def_ 28 (d := dD (Str.ofString "_law_lengths_fit") (prm (topS 40)) d__law_lengths_fit)
  have g44 : GOk P w K mg base T gl44 28 := gok_fnD g43 D43 (gx 28 _ rfl) ok__law_lengths_fit m__law_lengths_fit ps__law_lengths_fit rfl (fun _ _ _ _ _ _ us hl => match us, hl with | [_, _, _], _ => rfl)
  obtain ⟨fd44, D44⟩ := S.t.d.def_ 29 (d := dD (Str.ofString "_law_bent") (prm (topS 41)) d__law_bent)
  have g45 : GOk P w K mg base T gl45 29 := gok_fnD g44 D44 (gx 29 _ rfl) ok__law_bent m__law_bent ps__law_bent rfl (fun _ _ _ _ _ _ us hl => match us, hl with | [_, _], _ => rfl)
  exact g45
end
theorem holds_of (math : ∀ ns : List Int, ns.length ≤ 63 → ∃ r, F_law [.va false (.list (ns.map PyData.int))] = .ok (.va (.bool true)) r) : PySem.Challenge.rw_rivalwise_k57_whole_mixed_days.Holds := by
  w_on; o_law
  refine HandSHeadRun.head_any (r := PySem.W.OpenLaw.row PySem.Challenge.rw_rivalwise_k57_whole_mixed_days) (q := PySem.W.view (PySem.W.OpenLaw.row PySem.Challenge.rw_rivalwise_k57_whole_mixed_days).prog [42]) (H := hk) (ob := ob) (M := 6000) (loose := loose) (d := HandSHeadRun.topDef (PySem.W.OpenLaw.row PySem.Challenge.rw_rivalwise_k57_whole_mixed_days).prog 42) (kwd := []) ob_eq
    (by kernel_rfl) (fun s => by kernel_rfl) run (by kernel_rfl) (by kernel_rfl) (by kernel_rfl) (by rfl) (by first | assumption | decide +kernel) (by decide +kernel) ⟨rfl, rfl, rfl, rfl, rfl, by decide +kernel⟩ ?hw ?hc
  case hw => w_witness2
  case hc =>
    refine walk_ofGE (l := PySem.Challenge.rw_rivalwise_k57_whole_mixed_days) (n := 63) (k := 32) (x := Str.ofString "script") rfl (by decide) (by kernel_rfl) ⟨rfl, by decide, by decide⟩ ?F
    intro w mg fa h Y G hmg0
    obtain ⟨K, KX, c⟩ := Y
    have hmg : mg (Str.ofString "law") = some (.ref fa) := by
      have e : (HandSHeadRun.topDef (PySem.W.OpenLaw.row PySem.Challenge.rw_rivalwise_k57_whole_mixed_days).prog 42).name = Str.ofString "law" := by kernel_rfl
      rw [← e]
      exact hmg0
    exact ⟨K, KX, law_at KX G c hmg (c.t.d.fact 30 (f := .glo (Str.ofString "law"))) (params := prm (topS 42)) (df := d_law) (List.mem_of_getElem? (i := 30) rfl) ok_law ps_law m_law
      (fun _ _ _ _ _ _ us hl => match us, hl with | [_], _ => rfl) (fun base b1 b2 => goks KX G _ c) math⟩
end K57
open PySem PySem.W PyProof.Rows
set_option maxRecDepth 100000 in
set_option maxHeartbeats 8000000 in
theorem PySem.Challenge.cw_rivalwise_k57_whole_mixed_days_holds : PySem.Challenge.rw_rivalwise_k57_whole_mixed_days.Holds := by
  exact K57.holds_of K57.law_true
