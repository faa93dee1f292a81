import PyProof.Rows.All
import Wide.All
import OpenK.AllK
import Wide.FinOn
import HandS.ForMost
import HandS.Flow
import HandS.Wide
import HandS.IsInst
import HandS.TupAny
import HandS.Style
import PyProof.ReprRoads
import PySem.Challenge.RW_roomprofile_k04_mirrors
set_option Elab.async false
set_option linter.all false
set_option maxRecDepth 100000
set_option maxHeartbeats 1000000
/-! the small machine: data, store, terms, their evaluation -/
namespace RP
open PySem

inductive D where
  | non
  | bl (b : Bool)
  | int (i : Int)
  | str (x : Str)
  | tup (xs : List D)
  | ref (n : Nat)
  deriving Inhabited

mutual
def D.top : D → Nat
  | .tup xs => tops xs
  | .ref n => n + 1
  | .non => 0
  | .bl _ => 0
  | .int _ => 0
  | .str _ => 0
def tops : List D → Nat
  | [] => 0
  | x :: xs => max x.top (tops xs)
end

mutual
def D.same : D → D → Bool
  | .non, .non => true
  | .bl a, .bl b => a == b
  | .int a, .int b => a == b
  | .str a, .str b => decide (a = b)
  | .tup a, .tup b => sames a b
  | .ref a, .ref b => a == b
  | _, _ => false
def sames : List D → List D → Bool
  | [], [] => true
  | x :: xs, y :: ys => x.same y && sames xs ys
  | _, _ => false
end

mutual
theorem D.same_iff : ∀ (a b : D), a.same b = true ↔ a = b
  | .non, b => by cases b <;> simp [D.same]
  | .bl _, b => by cases b <;> simp [D.same]
  | .int _, b => by cases b <;> simp [D.same]
  | .str _, b => by cases b <;> simp [D.same]
  | .ref _, b => by cases b <;> simp [D.same]
  | .tup xs, b => by
    cases b with
    | tup ys => simp only [D.same, D.tup.injEq]; exact sames_iff xs ys
    | _ => simp [D.same]
theorem sames_iff : ∀ (a b : List D), sames a b = true ↔ a = b
  | [], b => by cases b <;> simp [sames]
  | x :: xs, b => by
    cases b with
    | nil => simp [sames]
    | cons y ys => simp only [sames, Bool.and_eq_true, List.cons.injEq, D.same_iff x y, sames_iff xs ys]
end
theorem sames_self (a : List D) : sames a a = true := (sames_iff a a).mpr rfl

/-- what lies in the store: a list; a list that nobody changes -/
inductive O where
  | lst (xs : List D)
  | fro (xs : List D)
  deriving Inhabited
def O.top : O → Nat
  | .lst xs => tops xs
  | .fro xs => tops xs
def O.items : O → List D
  | .lst xs => xs
  | .fro xs => xs

abbrev Sto := List O
abbrev Env := List (Option D)

structure Exn where
  cls : Nat
  arg : Option D

inductive Res (α : Type) where
  | ok (a : α) (st : Sto)
  | exc (x : Exn) (st : Sto)
  | bad

def Res.bind {α β : Type} : Res α → (α → Sto → Res β) → Res β
  | .ok a st, f => f a st
  | .exc x st, _ => .exc x st
  | .bad, _ => .bad
@[simp] theorem Res.bind_ok {α β : Type} (a : α) (st : Sto) (f : α → Sto → Res β) : (Res.ok a st).bind f = f a st := rfl
@[simp] theorem Res.bind_exc {α β : Type} (a : Exn) (st : Sto) (f : α → Sto → Res β) : (Res.exc a st : Res α).bind f = .exc a st := rfl
@[simp] theorem Res.bind_bad {α β : Type} (f : α → Sto → Res β) : (Res.bad : Res α).bind f = .bad := rfl
theorem Res.bind_eq_ok {α β : Type} {r : Res α} {f : α → Sto → Res β} {b : β} {st' : Sto} (h : r.bind f = .ok b st') : ∃ a st, r = .ok a st ∧ f a st = .ok b st' := by
  cases r with
  | ok a st => exact ⟨a, st, rfl, h⟩
  | exc x st => cases h
  | bad => cases h

/-- what is newer than n and unreachable goes -/
def trim (n t : Nat) (st : Sto) : Sto := if t ≤ n ∧ (st.take n).all (fun o => decide (o.top ≤ n)) = true then st.take n else st

inductive Bin where
  | add | sub | mul | fdiv | mod | pow
  deriving DecidableEq, Repr
inductive Cmp where
  | lt | le | gt | ge | eq | ne | isN | notN | isin | notin
  deriving DecidableEq, Repr
inductive Bi where
  | len | sum | abs | max | min | int | tuple | list | repr | all | any | sorted | str | bool
  deriving DecidableEq, Repr
inductive Ty where
  | int | bool | tuple | str | list | dict
  deriving DecidableEq, Repr
inductive Mt where
  | append | extend | pop | index
  deriving DecidableEq, Repr

mutual
inductive E where
  | v (i : Nat)
  | k (d : D)
  | g (x : Nat)
  | tup (es : Es)
  | lst (es : Es)
  | bin (o : Bin) (a b : E)
  | cmp (o : Cmp) (a b : E)
  | chain (o p : Cmp) (a b c : E)
  | neg (a : E)
  | not (a : E)
  | and (a b : E)
  | or (a b : E)
  | ife (c a b : E)
  | ix (a b : E)
  | sl (a lo hi : E)
  | rev (a : E)
  | call (f : Nat) (es : Es)
  | bi (b : Bi) (es : Es)
  | isi (a : E) (t : Ty)
  | mt (m : Mt) (a : E) (es : Es)
  | comp (t : Tg) (it : It) (c : E) (e : E)
inductive Es where
  | nil
  | cons (e : E) (es : Es)
inductive It where
  | seq (e : E)
  | rng (a b : E)
  | enum (e : E)
  | zip (a b : E)
inductive Tg where
  | nm (i : Nat)
  | two (a b : Tg)
  | sub (a i : E)
end

mutual
inductive S where
  | ex (e : E)
  | asg (t : Tg) (e : E)
  | two (i j : Nat) (a b : E)
  | aug (i : Nat) (o : Bin) (e : E)
  | ret (e : E)
  | ife (c : E) (a b : Ss)
  | for_ (t : Tg) (it : It) (b : Ss)
  | skip
  | never
inductive Ss where
  | nil
  | cons (s : S) (ss : Ss)
end

/-! ### primitives -/
def tru (d : D) (st : Sto) : Option Bool :=
  match d with
  | .non => some false
  | .bl b => some b
  | .int i => some (i != 0)
  | .str y => if y.length ≤ sizeLine then some ((y.length : Int) != 0) else none
  | .tup xs => some (!xs.isEmpty)
  | .ref n => match st[n]? with
    | some o => some (!o.items.isEmpty)
    | none => none

def isB : D → Option Bool
  | .bl b => some b
  | _ => none
/-- a branch -/
def br {α : Type} (o : Option Bool) (x y : Res α) : Res α :=
  match o with
  | some true => x
  | some false => y
  | none => .bad
theorem br_some {α : Type} (b : Bool) (x y : Res α) : br (some b) x y = if b = true then x else y := by cases b <;> rfl
def mulOk (i j : Int) : Bool := decide (i.natAbs.log2 + j.natAbs.log2 < 1000000)
def divOk (j : Int) : Bool := decide (0 < j ∧ j.natAbs.log2 < 9000)
def powOk (i j : Int) : Bool := decide (0 ≤ j ∧ (Builtin.Int.intBits i : Int) * j ≤ 2 ^ 27)

def bin : Bin → D → D → Sto → Res D
  | .add, .int i, .int j, st => .ok (.int (i + j)) st
  | .sub, .int i, .int j, st => .ok (.int (i - j)) st
  | .mul, .int i, .int j, st => if mulOk i j then .ok (.int (i * j)) st else .bad
  | .fdiv, .int i, .int j, st => if divOk j then .ok (.int (i / j)) st else .bad
  | .mod, .int i, .int j, st => if 0 < j then .ok (.int (i % j)) st else .bad
  | .pow, .int i, .int j, st => if powOk i j then .ok (.int (i ^ j.toNat)) st else .bad
  | .add, .str x, .str y, st => if x.length + y.length ≤ sizeLine then .ok (.str (x ++ y)) st else .bad
  | .add, .tup xs, .tup ys, st => if xs.length + ys.length ≤ sizeLine then .ok (.tup (xs ++ ys)) st else .bad
  | .add, .ref m, .ref n, st => match st[m]?, st[n]? with
    | some (.lst xs), some (.lst ys) => if xs.length + ys.length ≤ sizeLine then .ok (.ref st.length) (st ++ [.lst (xs ++ ys)]) else .bad
    | _, _ => .bad
  | .mul, .ref m, .int k, st => match st[m]? with
    | some (.lst xs) => if -(2 ^ 63) ≤ k ∧ k < 2 ^ 63 ∧ xs.length * k.toNat ≤ sizeLine then .ok (.ref st.length) (st ++ [.lst (List.replicate k.toNat xs).flatten]) else .bad
    | _ => .bad
  | _, _, _, _ => .bad


def augD : Bin → D → D → Sto → Res D
  | .add, .int i, .int j, st => .ok (.int (i + j)) st
  | .sub, .int i, .int j, st => .ok (.int (i - j)) st
  | _, _, _, _ => .bad

mutual
/-- the data behind a value, lists by rd -/
def pyW (rd : Nat → Option PyData) : D → Option PyData
  | .non => some .none
  | .bl b => some (.bool b)
  | .int i => some (.int i)
  | .str x => some (.str x)
  | .tup xs => (pysW rd xs).map .tuple
  | .ref n => rd n
def pysW (rd : Nat → Option PyData) : List D → Option (List PyData)
  | [] => some []
  | x :: xs => match pyW rd x with
    | some a => match pysW rd xs with
      | some r => some (a :: r)
      | none => none
    | none => none
end
/-- lists nested f deep -/
def rdN (st : Sto) : Nat → Nat → Option PyData
  | 0, _ => none
  | f + 1, n => match st[n]? with
    | some o => (pysW (rdN st f) o.items).map .list
    | none => none
def toPy (st : Sto) (d : D) : Option PyData := pyW (rdN st 4) d

/-- == -/
def eqP (x y : D) (st : Sto) : Option Bool :=
  match toPy st x, toPy st y with
  | some p, some q => if p.canLay0 = true ∧ q.canLay0 = true ∧ min p.depth q.depth ≤ 64 then some (PyData.eqv p q) else none
  | _, _ => none

def eqD (x y : D) (st : Sto) : Option Bool :=
  match x, y with
  | .str a, .str b => some (decide (a = b))
  | _, _ => eqP x y st
def flat : D → Bool
  | .non => true
  | .bl _ => true
  | .int _ => true
  | .str _ => true
  | .tup _ => false
  | .ref _ => false
def eqF : D → D → Bool
  | .non, .non => true
  | .bl a, .bl b => a == b
  | .bl a, .int b => (if a then 1 else 0) == b
  | .int a, .bl b => a == (if b then 1 else 0)
  | .int a, .int b => a == b
  | .str a, .str b => a == b
  | _, _ => false
def seqOf (d : D) (st : Sto) : Option (List D) :=
  match d with
  | .tup xs => some xs
  | .ref n => (st[n]?).map O.items
  | _ => none
def inD (x y : D) (st : Sto) : Option Bool :=
  match seqOf y st with
  | some xs => if flat x && xs.all flat then some (xs.any fun y => eqF y x) else none
  | none => none

def ofB : Option Bool → Sto → Res D
  | some b, st => .ok (.bl b) st
  | none, _ => .bad

def cmp : Cmp → D → D → Sto → Res D
  | .lt, .int i, .int j, st => .ok (.bl (decide (i < j))) st
  | .le, .int i, .int j, st => .ok (.bl (decide (i ≤ j))) st
  | .gt, .int i, .int j, st => .ok (.bl (decide (j < i))) st
  | .ge, .int i, .int j, st => .ok (.bl (decide (j ≤ i))) st
  | .eq, x, y, st => ofB (eqD x y st) st
  | .ne, x, y, st => ofB ((eqD x y st).map not) st
  | .isN, x, .non, st => .ok (.bl (match x with | .non => true | _ => false)) st
  | .notN, x, .non, st => .ok (.bl (match x with | .non => false | _ => true)) st
  | .isin, x, y, st => ofB (inD x y st) st
  | .notin, x, y, st => ofB ((inD x y st).map not) st
  | _, _, _, _ => .bad

def ixD (x y : D) (st : Sto) : Res D :=
  match y with
  | .int i => match seqOf x st with
    | some xs => match L2.atI xs i with
      | some d => .ok d st
      | none => .bad
    | none => .bad
  | _ => .bad

def intsOf : List D → Option (List Int)
  | [] => some []
  | .int i :: r => (intsOf r).map (i :: ·)
  | _ :: _ => none

def reprOk (p : PyData) : Bool := p.showable && decide (p.depth ≤ 64) && decide (p.shown.length ≤ sizeLine)
def reprD (x : D) (st : Sto) : Res D :=
  match toPy st x with
  | some p => if reprOk p && p.canLay0 then .ok (.str p.shown) st else .bad
  | none => .bad

def bi : Bi → List D → Sto → Res D
  | .len, [.str z], st => if z.length ≤ sizeLine then .ok (.int z.length) st else .bad
  | .len, [.tup xs], st => .ok (.int xs.length) st
  | .len, [.ref n], st => match st[n]? with
    | some o => .ok (.int o.items.length) st
    | none => .bad
  | .sum, [.ref n], st => match st[n]? with
    | some o => match intsOf o.items with
      | some ns => .ok (.int ns.sum) st
      | none => .bad
    | none => .bad
  | .abs, [.int i], st => .ok (.int (if i < 0 then -i else i)) st
  | .max, [.int i, .int j], st => .ok (.int (if j > i then j else i)) st
  | .min, [.int i, .int j], st => .ok (.int (if j < i then j else i)) st
  | .int, [.int i], st => .ok (.int i) st
  | .int, [.bl b], st => .ok (.int (if b then 1 else 0)) st
  | .tuple, [.tup xs], st => .ok (.tup xs) st
  | .tuple, [.ref n], st => match st[n]? with
    | some o => .ok (.tup o.items) st
    | none => .bad
  | .list, [x], st => match seqOf x st with
    | some xs => .ok (.ref st.length) (st ++ [.lst xs])
    | none => .bad
  | .repr, [x], st => reprD x st
  | _, _, _ => .bad

def tyIs : Ty → D → Sto → Option Bool
  | .int, .int _, _ => some true
  | .int, .bl _, _ => some true
  | .int, .non, _ => some false
  | .int, .str _, _ => some false
  | .int, .tup _, _ => some false
  | .int, .ref _, _ => some false
  | .bool, .bl _, _ => some true
  | .bool, _, _ => some false
  | .tuple, .tup _, _ => some true
  | .tuple, _, _ => some false
  | .str, .str _, _ => some true
  | .str, _, _ => some false
  | .list, .ref n, st => match st[n]? with
    | some _ => some true
    | none => none
  | .list, _, _ => some false
  | .dict, _, _ => some false
def isiD (t : Ty) (x : D) (st : Sto) : Res D :=
  match x with
  | .ref n => if n < st.length then ofB (tyIs t x st) st else .bad
  | _ => ofB (tyIs t x st) st

def setL (n : Nat) (f : List D → Option (List D)) (st : Sto) : Option Sto :=
  match st[n]? with
  | some (.lst xs) => match f xs with
    | some ys => if ys.length ≤ sizeLine then some (st.set n (.lst ys)) else none
    | none => none
  | _ => none

def mt : Mt → D → List D → Sto → Res D
  | .append, .ref n, [x], st => match setL n (fun xs => some (xs ++ [x])) st with
    | some st' => .ok .non st'
    | none => .bad
  | .extend, .ref n, [.ref m], st => match st[m]? with
    | some (.lst ys) => match setL n (fun xs => some (xs ++ ys)) st with
      | some st' => .ok .non st'
      | none => .bad
    | _ => .bad
  | _, _, _, _ => .bad

def putIx (o i v : D) (st : Sto) : Option Sto :=
  match o, i with
  | .ref n, .int k => setL n (fun xs => (L2.ixN xs.length k).map fun j => xs.set j v) st
  | _, _ => none

abbrev CallF := Nat → List D → Sto → Res D

/-- is the thing that is walked still what it was? -/
def still (src : Option (Nat × List D)) (st : Sto) : Bool :=
  match src with
  | none => true
  | some (n, xs) => match st[n]? with
    | some o => sames o.items xs
    | none => false

def numb (lo : Int) : Nat → List D
  | 0 => []
  | n + 1 => .int lo :: numb (lo + 1) n
def enumd (i : Int) : List D → List D
  | [] => []
  | x :: xs => .tup [.int i, x] :: enumd (i + 1) xs
def zipd : List D → List D → List D
  | x :: xs, y :: ys => .tup [x, y] :: zipd xs ys
  | _, _ => []

section
variable (gl : List D) (cf : CallF)
/-- stores and the slots' values -/
def asgTup (f : D → Env → Sto → Res Env) (g : D → Env → Sto → Res Env) : D → Env → Sto → Res Env
  | .tup [a, b], env, st => (f a env st).bind fun env st => g b env st
  | _, _, _ => .bad
def srcOf (d : D) : Option Nat := match d with
  | .ref n => some n
  | _ => none

def compLoop (tg : D → Env → Sto → Res Env) (cnd elt : Env → Sto → Res D) (src : Option (Nat × List D)) (n : Nat) (env : Env) : List D → Sto → Res Unit
  | [], st => if still src st then .ok () st else .bad
  | x :: xs, st => if still src st then
      (tg x env st).bind fun env1 st => (cnd env1 st).bind fun c st => br (tru c st)
          ((elt env1 st).bind fun y st => match setL n (fun xs => some (xs ++ [y])) st with
            | some st => compLoop tg cnd elt src n env xs (trim (n + 1) 0 st)
            | none => .bad)
          (compLoop tg cnd elt src n env xs (trim (n + 1) 0 st))
    else .bad

def lkV (o : Option (Option D)) (st : Sto) : Res D := match o with
  | some (some d) => .ok d st
  | _ => .bad
def lkG (o : Option D) (st : Sto) : Res D := match o with
  | some d => .ok d st
  | none => .bad
def negD (x : D) (st : Sto) : Res D := match x with
  | .int i => .ok (.int (-i)) st
  | _ => .bad
def partD : D → Option (Option Int)
  | .non => some none
  | .int i => some (some i)
  | _ => none
def cutD (xs : List D) (lo hi : Option Int) : List D := (xs.drop (HT.sIx xs.length 0 lo)).take (HT.sIx xs.length xs.length hi - HT.sIx xs.length 0 lo)
def slD (x l h : D) (st : Sto) : Res D := match partD l, partD h with
  | some lo, some hi => match x with
    | .tup xs => .ok (.tup (cutD xs lo hi)) st
    | .ref n => match st[n]? with
      | some o => .ok (.ref st.length) (st ++ [.lst (cutD o.items lo hi)])
      | none => .bad
    | _ => .bad
  | _, _ => .bad
def revD (x : D) (st : Sto) : Res D := match x with
  | .ref n => match st[n]? with
    | some o => .ok (.ref st.length) (st ++ [.lst o.items.reverse])
    | none => .bad
  | _ => .bad
def itOf (x : D) (st : Sto) : Res (Option (Nat × List D) × List D) := match seqOf x st with
  | some xs => .ok ((srcOf x).map (·, xs), xs) st
  | none => .bad
def rngOf (x y : D) (st : Sto) : Res (Option (Nat × List D) × List D) := match x, y with
  | .int i, .int j => if -(2 ^ 62) ≤ i ∧ i < 2 ^ 62 ∧ -(2 ^ 62) ≤ j ∧ j < 2 ^ 62 then .ok (none, numb i (j - i).toNat) st else .bad
  | _, _ => .bad
def enumOf (x : D) (st : Sto) : Res (Option (Nat × List D) × List D) := match x with
  | .ref n => match st[n]? with
    | some o => .ok (some (n, o.items), enumd 0 o.items) st
    | none => .bad
  | _ => .bad
def putTo (r : Option Sto) (env : Env) : Res Env := match r with
  | some st' => .ok env st'
  | none => .bad
def Tg.slots : Tg → List Nat
  | .nm i => [i]
  | .two a b => a.slots ++ b.slots
  | .sub _ _ => []
def wipeE (env : Env) : List Nat → Env
  | [] => env
  | i :: r => (wipeE env r).set i none

mutual
def ev : E → Env → Sto → Res D
  | .v i, env, st => lkV (env[i]?) st
  | .k d, _, st => .ok d st
  | .g x, _, st => lkG (gl[x]?) st
  | .tup es, env, st => (evs es env st).bind fun ds st => if ds.length ≤ sizeLine then .ok (.tup ds) st else .bad
  | .lst es, env, st => (evs es env st).bind fun ds st => if ds.length ≤ sizeLine then .ok (.ref st.length) (st ++ [.lst ds]) else .bad
  | .bin o a b, env, st => (ev a env st).bind fun x st => (ev b env st).bind fun y st => bin o x y st
  | .cmp o a b, env, st => (ev a env st).bind fun x st => (ev b env st).bind fun y st => cmp o x y st
  | .chain o p a b c, env, st => (ev a env st).bind fun x st => (ev b env st).bind fun y st => (cmp o x y st).bind fun z st => br (isB z) ((ev c env st).bind fun w st => cmp p y w st) (.ok (.bl false) st)
  | .neg a, env, st => (ev a env st).bind fun x st => negD x st
  | .not a, env, st => (ev a env st).bind fun x st => br (tru x st) (.ok (.bl false) st) (.ok (.bl true) st)
  | .and a b, env, st => (ev a env st).bind fun x st => br (tru x st) (ev b env st) (.ok x st)
  | .or a b, env, st => (ev a env st).bind fun x st => br (tru x st) (.ok x st) (ev b env st)
  | .ife c a b, env, st => (ev c env st).bind fun x st => br (tru x st) (ev a env st) (ev b env st)
  | .ix a b, env, st => (ev a env st).bind fun x st => (ev b env st).bind fun y st => ixD x y st
  | .sl a lo hi, env, st => (ev a env st).bind fun x st => (ev lo env st).bind fun l st => (ev hi env st).bind fun h st => slD x l h st
  | .rev a, env, st => (ev a env st).bind fun x st => revD x st
  | .call f es, env, st => (evs es env st).bind fun ds st => cf f ds st
  | .bi b es, env, st => (evs es env st).bind fun ds st => bi b ds st
  | .isi a t, env, st => (ev a env st).bind fun x st => isiD t x st
  | .mt m a es, env, st => (ev a env st).bind fun x st => (evs es env st).bind fun ds st => mt m x ds st
  | .comp t it c e, env, st => (evI it env st).bind fun r st =>
      (compLoop (asg t) (ev c) (ev e) r.1 st.length (wipeE env t.slots) r.2 (st ++ [.lst []])).bind fun _ st' => .ok (.ref st.length) st'
def evs : Es → Env → Sto → Res (List D)
  | .nil, _, st => .ok [] st
  | .cons e es, env, st => (ev e env st).bind fun x st => (evs es env st).bind fun xs st => .ok (x :: xs) st
def evI : It → Env → Sto → Res (Option (Nat × List D) × List D)
  | .seq e, env, st => (ev e env st).bind fun x st => itOf x st
  | .rng a b, env, st => (ev a env st).bind fun x st => (ev b env st).bind fun y st => rngOf x y st
  | .enum e, env, st => (ev e env st).bind fun x st => enumOf x st
  | .zip _ _, _, _ => .bad
def asg : Tg → D → Env → Sto → Res Env
  | .nm i, d, env, st => .ok (env.set i (some d)) st
  | .two a b, d, env, st => asgTup (asg a) (asg b) d env st
  | .sub a i, d, env, st => (ev a env st).bind fun o st => (ev i env st).bind fun k st => putTo (putIx o k d st) env
end

inductive Fl where
  | nx (env : Env)
  | rt (d : D)

/-- what follows a statement -/
def nxt (f : Fl) (st : Sto) (k : Env → Sto → Res Fl) : Res Fl :=
  match f with
  | .nx env => k env st
  | .rt d => .ok (.rt d) st
def envTop : Env → Nat
  | [] => 0
  | some d :: r => max d.top (envTop r)
  | none :: r => envTop r

def forLoop (tg : D → Env → Sto → Res Env) (body : Env → Sto → Res Fl) (src : Option (Nat × List D)) (n : Nat) : List D → Env → Sto → Res Fl
  | [], env, st => if still src st then .ok (.nx env) st else .bad
  | x :: xs, env, st => if still src st then
      (tg x env st).bind fun env st => (body env st).bind fun f st => nxt f st fun env st => forLoop tg body src n xs env (trim n (envTop env) st)
    else .bad

mutual
def evS : S → Env → Sto → Res Fl
  | .ex e, env, st => (ev gl cf e env st).bind fun _ st => .ok (.nx env) st
  | .asg t e, env, st => (ev gl cf e env st).bind fun d st => (asg gl cf t d env st).bind fun env st => .ok (.nx env) st
  | .two i j a b, env, st => (ev gl cf a env st).bind fun x st => (ev gl cf b env st).bind fun y st => .ok (.nx ((env.set i (some x)).set j (some y))) st
  | .aug i o e, env, st => (lkV (env[i]?) st).bind fun x st => (ev gl cf e env st).bind fun y st => (augD o x y st).bind fun z st => .ok (.nx (env.set i (some z))) st
  | .ret e, env, st => (ev gl cf e env st).bind fun d st => .ok (.rt d) st
  | .ife c a b, env, st => (ev gl cf c env st).bind fun x st => br (tru x st) (evSs a env st) (evSs b env st)
  | .for_ t it b, env, st => (evI gl cf it env st).bind fun r st => forLoop (asg gl cf t) (evSs b) r.1 st.length r.2 env st
  | .skip, env, st => .ok (.nx env) st
  | .never, _, _ => .bad
def evSs : Ss → Env → Sto → Res Fl
  | .nil, env, st => .ok (.nx env) st
  | .cons s ss, env, st => (evS s env st).bind fun f st => nxt f st (evSs ss)
end
end

/-- a def: how many parameters, how many names, its body -/
structure Fd where
  np : Nat
  nn : Nat
  body : Ss

/-- a def's end: what is new and not handed out is forgotten -/
def fin (n : Nat) (f : Fl) (st : Sto) : Res D :=
  match f with
  | .rt d => .ok d (trim n d.top st)
  | .nx _ => .ok .non (trim n 0 st)
def callN (gl : List D) (P : List Fd) : Nat → CallF
  | 0, _, _, _ => .bad
  | n + 1, f, ds, st => match P[f]? with
    | none => .bad
    | some fd => if ds.length = fd.np then (evSs gl (callN gl P n) fd.body (ds.map some ++ List.replicate (fd.nn - fd.np) none) st).bind (fin st.length) else .bad
theorem call_eq {gl : List D} {P : List Fd} {n f : Nat} {fd : Fd} {ds : List D} {st : Sto} (h : P[f]? = some fd) (hl : ds.length = fd.np) :
    callN gl P (n + 1) f ds st = (evSs gl (callN gl P n) fd.body (ds.map some ++ List.replicate (fd.nn - fd.np) none) st).bind (fin st.length) := by
  simp only [callN, h, hl, if_true]

theorem nxt_nx {env : Env} {st : Sto} {k : Env → Sto → Res Fl} : nxt (.nx env) st k = k env st := rfl
theorem nxt_rt {d : D} {st : Sto} {k : Env → Sto → Res Fl} : nxt (.rt d) st k = .ok (.rt d) st := rfl
theorem fin_rt {n : Nat} {d : D} {st : Sto} : fin n (.rt d) st = .ok d (trim n d.top st) := rfl
theorem fin_nx {n : Nat} {env : Env} {st : Sto} : fin n (.nx env) st = .ok .non (trim n 0 st) := rfl
theorem tru_bl {b : Bool} {st : Sto} : tru (.bl b) st = some b := rfl
def tyB : Ty → D → Bool
  | .int, .int _ => true
  | .int, .bl _ => true
  | .bool, .bl _ => true
  | .tuple, .tup _ => true
  | .str, .str _ => true
  | .list, .ref _ => true
  | _, _ => false
theorem isi_eq {t : Ty} {d : D} {st : Sto} (h : d.top ≤ st.length) : isiD t d st = .ok (.bl (tyB t d)) st := by
  cases d with
  | ref n =>
    have hn : n < st.length := h
    have e : ∃ o, st[n]? = some o := ⟨st[n], List.getElem?_eq_getElem hn⟩
    obtain ⟨o, e⟩ := e
    cases t <;> simp [isiD, hn, tyIs, tyB, ofB, e]
  | _ => cases t <;> rfl

/-! ### what a call leaves -/
def Wf (st : Sto) : Prop := ∀ o ∈ st, o.top ≤ st.length
theorem trim_app {st more : Sto} {t : Nat} (w : Wf st) (h : t ≤ st.length) : trim st.length t (st ++ more) = st := by
  have e : (st ++ more).take st.length = st := List.take_left
  unfold trim
  rw [e, if_pos ⟨h, List.all_eq_true.mpr fun o ho => decide_eq_true (w o ho)⟩]
theorem trim_id {st : Sto} {t : Nat} (w : Wf st) (h : t ≤ st.length) : trim st.length t st = st := by
  have := trim_app (more := []) w h
  simpa using this
theorem trim_len {st st' more : Sto} {t : Nat} (w : Wf st') (hl : st'.length = st.length) (h : t ≤ st.length) : trim st.length t (st' ++ more) = st' := by
  rw [← hl] at h ⊢
  exact trim_app w h
end RP

/-! the small machine stands for the model's: how data and store lie in the abstract heap -/
namespace RP
open PySem L2

mutual
inductive RV (K : PySem.W.Frag) (ρ : Nat → Addr) (L : Nat) (H : Hp) : D → V → Prop where
  | non : RV K ρ L H .non .non
  | bl (b : Bool) : RV K ρ L H (.bl b) (.bl b)
  | int (i : Int) : RV K ρ L H (.int i) (.int i)
  | str (x : Str) : RV K ρ L H (.str x) (.str x)
  | tup {a : Addr} {vs : List V} {ds : List D} : SqT K H a vs → RVs K ρ L H ds vs → RV K ρ L H (.tup ds) (.ref a)
  | ref {n : Nat} : n < L → RV K ρ L H (.ref n) (.ref (ρ n))
inductive RVs (K : PySem.W.Frag) (ρ : Nat → Addr) (L : Nat) (H : Hp) : List D → List V → Prop where
  | nil : RVs K ρ L H [] []
  | cons {d : D} {v : V} {ds : List D} {vs : List V} : RV K ρ L H d v → RVs K ρ L H ds vs → RVs K ρ L H (d :: ds) (v :: vs)
end

variable {K : PySem.W.Frag}

mutual
theorem RV.move {ρ ρ' : Nat → Addr} {L L' : Nat} {H H' : Hp} (hL : L ≤ L') (hr : ∀ n, n < L → ρ' n = ρ n) (ht : ∀ a xs, SqT K H a xs → SqT K H' a xs) :
    ∀ {d : D} {v : V}, RV K ρ L H d v → RV K ρ' L' H' d v
  | .non, _, .non => .non
  | .bl _, _, .bl _ => .bl _
  | .int _, _, .int _ => .int _
  | .str _, _, .str _ => .str _
  | .tup _, _, .tup h r => .tup (ht _ _ h) (RVs.move hL hr ht r)
  | .ref n, _, .ref h => by rw [← hr n h]; exact .ref (Nat.lt_of_lt_of_le h hL)
theorem RVs.move {ρ ρ' : Nat → Addr} {L L' : Nat} {H H' : Hp} (hL : L ≤ L') (hr : ∀ n, n < L → ρ' n = ρ n) (ht : ∀ a xs, SqT K H a xs → SqT K H' a xs) :
    ∀ {d : List D} {v : List V}, RVs K ρ L H d v → RVs K ρ' L' H' d v
  | [], _, .nil => .nil
  | _ :: _, _, .cons h r => .cons (RV.move hL hr ht h) (RVs.move hL hr ht r)
end
mutual
/-- only what the value reaches matters -/
theorem RV.low {ρ : Nat → Addr} {L m : Nat} {H : Hp} : ∀ {d : D} {v : V}, d.top ≤ m → RV K ρ L H d v → RV K ρ m H d v
  | .non, _, _, .non => .non
  | .bl _, _, _, .bl _ => .bl _
  | .int _, _, _, .int _ => .int _
  | .str _, _, _, .str _ => .str _
  | .tup _, _, z, .tup h r => .tup h (RVs.low (by simpa [D.top] using z) r)
  | .ref n, _, z, .ref h => .ref (by simp [D.top] at z; omega)
theorem RVs.low {ρ : Nat → Addr} {L m : Nat} {H : Hp} : ∀ {d : List D} {v : List V}, tops d ≤ m → RVs K ρ L H d v → RVs K ρ m H d v
  | [], _, _, .nil => .nil
  | _ :: _, _, z, .cons h r => by
    have z' := z
    simp only [tops, Nat.max_le] at z'
    exact .cons (RV.low z'.1 h) (RVs.low z'.2 r)
end
theorem RVs.length {ρ : Nat → Addr} {L : Nat} {H : Hp} : ∀ {ds : List D} {vs : List V}, RVs K ρ L H ds vs → ds.length = vs.length
  | _, _, .nil => rfl
  | _, _, .cons _ r => by simp [r.length]
theorem RVs.get {ρ : Nat → Addr} {L : Nat} {H : Hp} : ∀ {ds : List D} {vs : List V} {i : Nat} {d : D}, RVs K ρ L H ds vs → ds[i]? = some d → ∃ v, vs[i]? = some v ∧ RV K ρ L H d v
  | _, _, _, _, .nil, e => by simp at e
  | _, _, 0, _, .cons h _, e => by simp at e; subst e; exact ⟨_, rfl, h⟩
  | _, _, i + 1, d, .cons _ r, e => by
    obtain ⟨v, h1, h2⟩ := RVs.get (i := i) (d := d) r (by simpa using e)
    exact ⟨v, by simpa using h1, h2⟩
theorem RVs.app {ρ : Nat → Addr} {L : Nat} {H : Hp} : ∀ {ds es : List D} {vs us : List V}, RVs K ρ L H ds vs → RVs K ρ L H es us → RVs K ρ L H (ds ++ es) (vs ++ us)
  | _, _, _, _, .nil, s => s
  | _, _, _, _, .cons h r, s => .cons h (RVs.app r s)
theorem RVs.set {ρ : Nat → Addr} {L : Nat} {H : Hp} {d : D} {v : V} (h : RV K ρ L H d v) : ∀ {ds : List D} {vs : List V} (i : Nat), RVs K ρ L H ds vs → RVs K ρ L H (ds.set i d) (vs.set i v)
  | _, _, _, .nil => .nil
  | _, _, 0, .cons _ r => .cons h r
  | _, _, i + 1, .cons q r => .cons q (RVs.set h i r)
theorem RVs.rep {ρ : Nat → Addr} {L : Nat} {H : Hp} {ds : List D} {vs : List V} (h : RVs K ρ L H ds vs) : ∀ k : Nat, RVs K ρ L H (List.replicate k ds).flatten (List.replicate k vs).flatten
  | 0 => .nil
  | k + 1 => by
    rw [List.replicate_succ, List.replicate_succ, List.flatten_cons, List.flatten_cons]
    exact h.app (RVs.rep h k)

/-- a list that nobody writes -/
def Fro (K : PySem.W.Frag) (H : Hp) (a : Addr) (xs : List V) : Prop :=
  (∃ o, H a = some (.frz o (.lst xs))) ∨
    ∃ (o : Obj) (its : Array Value) (n : Nat), K.lookup a = some o ∧ o.cls = .type "list" ∧ o.dict = none ∧ o.data = .seq its n ∧ its.size ≤ sizeLine ∧ Vals xs its.toList
theorem Fro.sq {H : Hp} {a : Addr} {xs : List V} (h : Fro K H a xs) : SqL K H a xs := by
  rcases h with ⟨o, h⟩ | h
  · exact .inl (.inr ⟨o, h⟩)
  · exact .inr h

structure Rep (K : PySem.W.Frag) (ρ : Nat → Addr) (H : Hp) (st : Sto) : Prop where
  inj : ∀ m n xs ys, st[m]? = some (.lst xs) → st[n]? = some (.lst ys) → ρ m = ρ n → m = n
  lst : ∀ n xs, st[n]? = some (.lst xs) → ∃ vs, H (ρ n) = some (.lst vs) ∧ RVs K ρ st.length H xs vs
  fro : ∀ n xs, st[n]? = some (.fro xs) → ∃ vs, Fro K H (ρ n) vs ∧ RVs K ρ st.length H xs vs
theorem Rep.seq {ρ : Nat → Addr} {H : Hp} {st : Sto} (r : Rep K ρ H st) {n : Nat} {o : O} (h : st[n]? = some o) : ∃ vs, SqL K H (ρ n) vs ∧ RVs K ρ st.length H o.items vs := by
  cases o with
  | lst xs =>
    obtain ⟨vs, h1, h2⟩ := r.lst n xs h
    exact ⟨vs, SqL.of h1, h2⟩
  | fro xs =>
    obtain ⟨vs, h1, h2⟩ := r.fro n xs h
    exact ⟨vs, h1.sq, h2⟩

structure Go (K : PySem.W.Frag) (ρ : Nat → Addr) (st : Sto) (H : Hp) (ρ' : Nat → Addr) (st' : Sto) (H' : Hp) : Prop where
  len : st.length ≤ st'.length
  rho : ∀ n, n < st.length → ρ' n = ρ n
  t : ∀ a xs, SqT K H a xs → SqT K H' a xs
  f : ∀ a xs, Fro K H a xs → Fro K H' a xs
  rep : Rep K ρ' H' st'
theorem Go.refl {ρ : Nat → Addr} {H : Hp} {st : Sto} (r : Rep K ρ H st) : Go K ρ st H ρ st H := ⟨Nat.le_refl _, fun _ _ => rfl, fun _ _ h => h, fun _ _ h => h, r⟩
theorem Go.trans {ρ ρ1 ρ2 : Nat → Addr} {H H1 H2 : Hp} {st st1 st2 : Sto} (a : Go K ρ st H ρ1 st1 H1) (b : Go K ρ1 st1 H1 ρ2 st2 H2) : Go K ρ st H ρ2 st2 H2 :=
  ⟨Nat.le_trans a.len b.len, fun n h => by rw [b.rho n (Nat.lt_of_lt_of_le h a.len), a.rho n h], fun x xs h => b.t x xs (a.t x xs h), fun x xs h => b.f x xs (a.f x xs h), b.rep⟩
theorem Go.rv {ρ ρ1 : Nat → Addr} {H H1 : Hp} {st st1 : Sto} (a : Go K ρ st H ρ1 st1 H1) {d : D} {v : V} (h : RV K ρ st.length H d v) : RV K ρ1 st1.length H1 d v := h.move a.len a.rho a.t
theorem Go.rvs {ρ ρ1 : Nat → Addr} {H H1 : Hp} {st st1 : Sto} (a : Go K ρ st H ρ1 st1 H1) {d : List D} {v : List V} (h : RVs K ρ st.length H d v) : RVs K ρ1 st1.length H1 d v := h.move a.len a.rho a.t

theorem sqT_new {H : Hp} {p : Addr} {o : HO} (hp : H p = none) : ∀ a xs, SqT K H a xs → SqT K (upd H p o) a xs := fun a xs h => by
  rcases h with (h | ⟨u, h⟩) | h
  · exact .inl (.inl (by rw [upd_ne (ne_of_none h hp)]; exact h))
  · exact .inl (.inr ⟨u, by rw [upd_ne (ne_of_none h hp)]; exact h⟩)
  · exact .inr h
theorem fro_new {H : Hp} {p : Addr} {o : HO} (hp : H p = none) : ∀ a xs, Fro K H a xs → Fro K (upd H p o) a xs := fun a xs h => by
  rcases h with ⟨u, h⟩ | h
  · exact .inl ⟨u, by rw [upd_ne (ne_of_none h hp)]; exact h⟩
  · exact .inr h
theorem sqT_mut {H : Hp} {p : Addr} {o : HO} {ys : List V} (hp : H p = some (.lst ys)) : ∀ a xs, SqT K H a xs → SqT K (upd H p o) a xs := fun a xs h => by
  rcases h with (h | ⟨u, h⟩) | h
  · exact .inl (.inl (by rw [upd_ne (ne_of h hp (by intro z; cases z))]; exact h))
  · exact .inl (.inr ⟨u, by rw [upd_ne (ne_of h hp (by intro z; cases z))]; exact h⟩)
  · exact .inr h
theorem fro_mut {H : Hp} {p : Addr} {o : HO} {ys : List V} (hp : H p = some (.lst ys)) : ∀ a xs, Fro K H a xs → Fro K (upd H p o) a xs := fun a xs h => by
  rcases h with ⟨u, h⟩ | h
  · exact .inl ⟨u, by rw [upd_ne (ne_of h hp (by intro z; cases z))]; exact h⟩
  · exact .inr h

/-- the heap grows by a thing that the store does not know -/
theorem Go.fresh {ρ : Nat → Addr} {H : Hp} {st : Sto} {p : Addr} {o : HO} (r : Rep K ρ H st) (hp : H p = none) : Go K ρ st H ρ st (upd H p o) := by
  have mv : ∀ {ds : List D} {vs : List V}, RVs K ρ st.length H ds vs → RVs K ρ st.length (upd H p o) ds vs := fun h => h.move (Nat.le_refl _) (fun _ _ => rfl) (sqT_new hp)
  refine ⟨Nat.le_refl _, fun _ _ => rfl, sqT_new hp, fro_new hp, ⟨r.inj, fun n xs h => ?_, fun n xs h => ?_⟩⟩
  · obtain ⟨vs, h1, h2⟩ := r.lst n xs h
    exact ⟨vs, by rw [upd_ne (ne_of_none h1 hp)]; exact h1, mv h2⟩
  · obtain ⟨vs, h1, h2⟩ := r.fro n xs h
    exact ⟨vs, fro_new hp _ _ h1, mv h2⟩
/-- a thing that the store does not know is changed -/
theorem Go.other {ρ : Nat → Addr} {H : Hp} {st : Sto} {p : Addr} {o : HO} {ys : List V} (r : Rep K ρ H st) (hp : H p = some (.lst ys)) (hn : ∀ n xs, st[n]? = some (.lst xs) → ρ n ≠ p) : Go K ρ st H ρ st (upd H p o) := by
  have mv : ∀ {ds : List D} {vs : List V}, RVs K ρ st.length H ds vs → RVs K ρ st.length (upd H p o) ds vs := fun h => h.move (Nat.le_refl _) (fun _ _ => rfl) (sqT_mut hp)
  refine ⟨Nat.le_refl _, fun _ _ => rfl, sqT_mut hp, fro_mut hp, ⟨r.inj, fun n xs h => ?_, fun n xs h => ?_⟩⟩
  · obtain ⟨vs, h1, h2⟩ := r.lst n xs h
    exact ⟨vs, by rw [upd_ne (hn n xs h)]; exact h1, mv h2⟩
  · obtain ⟨vs, h1, h2⟩ := r.fro n xs h
    exact ⟨vs, fro_mut hp _ _ h1, mv h2⟩

def put (ρ : Nat → Addr) (n : Nat) (p : Addr) : Nat → Addr := fun m => if m = n then p else ρ m
theorem put_same {ρ : Nat → Addr} {n : Nat} {p : Addr} : put ρ n p n = p := if_pos rfl
theorem put_ne {ρ : Nat → Addr} {m n : Nat} {p : Addr} (h : m ≠ n) : put ρ n p m = ρ m := if_neg h

/-- a list that stands in the heap is taken into the store -/
theorem Go.adopt {ρ : Nat → Addr} {H : Hp} {st : Sto} {p : Addr} {ds : List D} {vs : List V} (r : Rep K ρ H st) (hp : H p = some (.lst vs)) (hn : ∀ n xs, st[n]? = some (.lst xs) → ρ n ≠ p) (h : RVs K ρ st.length H ds vs) :
    Go K ρ st H (put ρ st.length p) (st ++ [.lst ds]) H := by
  have mv : ∀ {ds : List D} {vs : List V}, RVs K ρ st.length H ds vs → RVs K (put ρ st.length p) (st ++ [O.lst ds]).length H ds vs := fun h => h.move (by simp) (fun n hn => put_ne (Nat.ne_of_lt hn)) (fun _ _ q => q)
  have lt : ∀ {n : Nat} {o : O}, st[n]? = some o → n < st.length := fun h => (List.getElem?_eq_some_iff.mp h).1
  have at' : ∀ {n : Nat} {o : O}, (st ++ [O.lst ds])[n]? = some o → (n < st.length ∧ st[n]? = some o) ∨ (n = st.length ∧ o = .lst ds) := fun {n o} h => by
    by_cases hl : n < st.length
    · rw [List.getElem?_append_left hl] at h
      exact .inl ⟨hl, h⟩
    · rw [List.getElem?_append_right (Nat.le_of_not_lt hl)] at h
      by_cases e : n = st.length
      · subst e; simp at h; exact .inr ⟨rfl, h.symm⟩
      · have : 1 ≤ n - st.length := by omega
        rw [List.getElem?_eq_none (by simpa using this)] at h; cases h
  have mv' : ∀ {es : List D} {vs : List V}, RVs K ρ st.length H es vs → RVs K (put ρ st.length p) (st ++ [O.lst ds]).length H es vs := fun h => h.move (by simp) (fun n hn => put_ne (Nat.ne_of_lt hn)) (fun _ _ q => q)
  refine ⟨by simp, fun n hn => put_ne (Nat.ne_of_lt hn), fun _ _ q => q, fun _ _ q => q, ⟨fun m n xs ys h1 h2 e => ?_, fun n xs h => ?_, fun n xs h => ?_⟩⟩
  · rcases at' h1 with ⟨l1, h1⟩ | ⟨rfl, _⟩
    · rcases at' h2 with ⟨l2, h2⟩ | ⟨rfl, _⟩
      · rw [put_ne (Nat.ne_of_lt l1), put_ne (Nat.ne_of_lt l2)] at e
        exact r.inj m n xs ys h1 h2 e
      · rw [put_ne (Nat.ne_of_lt l1), put_same] at e
        exact absurd e (hn m xs h1)
    · rcases at' h2 with ⟨l2, h2⟩ | ⟨rfl, _⟩
      · rw [put_same, put_ne (Nat.ne_of_lt l2)] at e
        exact absurd e.symm (hn n ys h2)
      · rfl
  · rcases at' h with ⟨l1, h⟩ | ⟨rfl, e⟩
    · obtain ⟨ws, h1, h2⟩ := r.lst n xs h
      exact ⟨ws, by rw [put_ne (Nat.ne_of_lt l1)]; exact h1, mv' h2⟩
    · cases e
      exact ⟨vs, by rw [put_same]; exact hp, mv' ‹_›⟩
  · rcases at' h with ⟨l1, h⟩ | ⟨rfl, e⟩
    · obtain ⟨ws, h1, h2⟩ := r.fro n xs h
      exact ⟨ws, by rw [put_ne (Nat.ne_of_lt l1)]; exact h1, mv' h2⟩
    · cases e
/-- a new list -/
theorem Go.newL {ρ : Nat → Addr} {H : Hp} {st : Sto} {p : Addr} {ds : List D} {vs : List V} (r : Rep K ρ H st) (hp : H p = none) (h : RVs K ρ st.length H ds vs) :
    Go K ρ st H (put ρ st.length p) (st ++ [.lst ds]) (upd H p (.lst vs)) := by
  have g := Go.fresh (o := .lst vs) r hp
  refine g.trans (Go.adopt g.rep upd_same (fun n xs e => ?_) (g.rvs h))
  obtain ⟨ws, h1, _⟩ := r.lst n xs e
  exact ne_of_none h1 hp
theorem RV.last {ρ : Nat → Addr} {H : Hp} {st : Sto} {p : Addr} {o : O} : RV K (put ρ st.length p) (st ++ [o]).length H (.ref st.length) (.ref p) := by
  have h : RV K (put ρ st.length p) (st ++ [o]).length H (.ref st.length) (.ref (put ρ st.length p st.length)) := .ref (by simp)
  rw [put_same] at h
  exact h
/-- a list is changed -/
theorem Go.setL {ρ : Nat → Addr} {H : Hp} {st : Sto} {n : Nat} {xs ys : List D} {vs ws : List V} (r : Rep K ρ H st) (hn : st[n]? = some (.lst xs)) (hv : H (ρ n) = some (.lst vs)) (h : RVs K ρ st.length H ys ws) :
    Go K ρ st H ρ (st.set n (.lst ys)) (upd H (ρ n) (.lst ws)) := by
  have mv : ∀ {ds : List D} {vs : List V}, RVs K ρ st.length H ds vs → RVs K ρ (st.set n (.lst ys)).length (upd H (ρ n) (.lst ws)) ds vs := fun h => h.move (by simp) (fun _ _ => rfl) (sqT_mut hv)
  have at' : ∀ {m : Nat} {o : O}, (st.set n (O.lst ys))[m]? = some o → (m ≠ n ∧ st[m]? = some o) ∨ (m = n ∧ o = .lst ys) := fun {m o} h => by
    by_cases e : n = m
    · subst e
      have hl : n < st.length := (List.getElem?_eq_some_iff.mp hn).1
      rw [List.getElem?_set_self hl] at h
      exact .inr ⟨rfl, (Option.some.inj h).symm⟩
    · rw [List.getElem?_set_ne e] at h
      exact .inl ⟨fun z => e z.symm, h⟩
  have back : ∀ {m : Nat} {zs : List D}, (st.set n (O.lst ys))[m]? = some (.lst zs) → ∃ zs', st[m]? = some (.lst zs') := fun {m zs} h => by
    rcases at' h with ⟨_, h⟩ | ⟨rfl, _⟩
    · exact ⟨_, h⟩
    · exact ⟨_, hn⟩
  refine ⟨by simp, fun _ _ => rfl, sqT_mut hv, fro_mut hv, ⟨fun a b as bs h1 h2 e => ?_, fun m zs h => ?_, fun m zs h => ?_⟩⟩
  · obtain ⟨_, h1⟩ := back h1
    obtain ⟨_, h2⟩ := back h2
    exact r.inj a b _ _ h1 h2 e
  · rcases at' h with ⟨ne, h⟩ | ⟨rfl, e⟩
    · obtain ⟨us, h1, h2⟩ := r.lst m zs h
      exact ⟨us, by rw [upd_ne (fun z => ne (r.inj m n _ _ h hn z))]; exact h1, mv h2⟩
    · cases e
      exact ⟨ws, upd_same, mv ‹_›⟩
  · rcases at' h with ⟨ne, h⟩ | ⟨rfl, e⟩
    · obtain ⟨us, h1, h2⟩ := r.fro m zs h
      exact ⟨us, fro_mut hv _ _ h1, mv h2⟩
    · cases e

/-- what is forgotten need not be told -/
theorem Rep.take {ρ : Nat → Addr} {H : Hp} {st : Sto} {n : Nat} (r : Rep K ρ H st) (h : ∀ o ∈ st.take n, o.top ≤ n) (hn : n ≤ st.length) : Rep K ρ H (st.take n) := by
  have el : (st.take n).length = n := by rw [List.length_take]; omega
  have at' : ∀ {m : Nat} {o : O}, (st.take n)[m]? = some o → st[m]? = some o ∧ o.top ≤ n := fun {m o} q => by
    refine ⟨?_, h o (List.mem_of_getElem? q)⟩
    rw [List.getElem?_take] at q
    split at q
    · exact q
    · cases q
  refine ⟨fun a b as bs h1 h2 e => r.inj a b as bs (at' h1).1 (at' h2).1 e, fun m zs q => ?_, fun m zs q => ?_⟩
  · obtain ⟨vs, h1, h2⟩ := r.lst m zs (at' q).1
    exact ⟨vs, h1, by rw [el]; exact h2.low (at' q).2⟩
  · obtain ⟨vs, h1, h2⟩ := r.fro m zs (at' q).1
    exact ⟨vs, h1, by rw [el]; exact h2.low (at' q).2⟩
theorem Go.trim {ρ ρ1 : Nat → Addr} {H H1 : Hp} {st st1 : Sto} {t : Nat} (g : Go K ρ st H ρ1 st1 H1) : Go K ρ st H ρ1 (trim st.length t st1) H1 := by
  unfold RP.trim
  split
  · rename_i h
    have ha : ∀ o ∈ st1.take st.length, o.top ≤ st.length := fun o ho => of_decide_eq_true (List.all_eq_true.mp h.2 o ho)
    exact ⟨by rw [List.length_take]; have := g.len; omega, g.rho, g.t, g.f, g.rep.take ha g.len⟩
  · exact g
theorem RV.trim {ρ : Nat → Addr} {H : Hp} {st1 : Sto} {n t : Nat} {d : D} {v : V} (hn : n ≤ st1.length) (ht : d.top ≤ t) (h : RV K ρ st1.length H d v) : RV K ρ (trim n t st1).length H d v := by
  unfold RP.trim
  split
  · rename_i q
    exact h.low (by rw [List.length_take]; omega)
  · exact h
theorem RVs.trim {ρ : Nat → Addr} {H : Hp} {st1 : Sto} {n t : Nat} {d : List D} {v : List V} (hn : n ≤ st1.length) (ht : tops d ≤ t) (h : RVs K ρ st1.length H d v) : RVs K ρ (trim n t st1).length H d v := by
  unfold RP.trim
  split
  · rename_i q
    exact h.low (by rw [List.length_take]; omega)
  · exact h

/-! ### names -/
structure REnv (K : PySem.W.Frag) (ρ : Nat → Addr) (L : Nat) (H : Hp) (env : Env) (σ : L2.St) : Prop where
  len : env.length = σ.length
  get : ∀ (i : Nat) (d : D), env[i]? = some (some d) → ∃ v, σ[i]? = some (some v) ∧ RV K ρ L H d v
theorem REnv.move {ρ ρ' : Nat → Addr} {st st' : Sto} {H H' : Hp} {env : Env} {σ : L2.St} (e : REnv K ρ st.length H env σ) (g : Go K ρ st H ρ' st' H') : REnv K ρ' st'.length H' env σ :=
  ⟨e.len, fun i d h => by obtain ⟨v, h1, h2⟩ := e.get i d h; exact ⟨v, h1, g.rv h2⟩⟩
theorem REnv.set {ρ : Nat → Addr} {L : Nat} {H : Hp} {env : Env} {σ : L2.St} {d : D} {v : V} (e : REnv K ρ L H env σ) (i : Nat) (h : RV K ρ L H d v) : REnv K ρ L H (env.set i (some d)) (σ.set i (some v)) := by
  refine ⟨by simp [e.len], fun j d' q => ?_⟩
  by_cases hj : i = j
  · subst hj
    have hl : i < env.length := by
      have := (List.getElem?_eq_some_iff.mp q).1
      simpa using this
    rw [List.getElem?_set_self hl] at q
    cases q
    exact ⟨v, by rw [List.getElem?_set_self (by rw [← e.len]; exact hl)], h⟩
  · rw [List.getElem?_set_ne hj] at q
    rw [List.getElem?_set_ne hj]
    exact e.get j d' q
theorem REnv.drop {ρ : Nat → Addr} {L : Nat} {H : Hp} {env : Env} {σ : L2.St} (e : REnv K ρ L H env σ) (i : Nat) : REnv K ρ L H (env.set i none) (σ.set i none) := by
  refine ⟨by simp [e.len], fun j d' q => ?_⟩
  by_cases hj : i = j
  · subst hj
    have hl : i < env.length := by
      have := (List.getElem?_eq_some_iff.mp q).1
      simpa using this
    rw [List.getElem?_set_self hl] at q
    cases q
  · rw [List.getElem?_set_ne hj] at q
    rw [List.getElem?_set_ne hj]
    exact e.get j d' q
theorem REnv.wipe {ρ : Nat → Addr} {L : Nat} {H : Hp} {env : Env} {σ : L2.St} (e : REnv K ρ L H env σ) : ∀ vs : List Nat, REnv K ρ L H (wipeE env vs) (wipe σ vs)
  | [] => e
  | i :: r => (REnv.wipe e r).drop i
theorem envTop_le {env : Env} {i : Nat} {d : D} (h : env[i]? = some (some d)) : d.top ≤ envTop env := by
  induction env generalizing i with
  | nil => simp at h
  | cons x r ih =>
    cases i with
    | zero => simp at h; subst h; simp only [envTop]; exact Nat.le_max_left _ _
    | succ i =>
      have q := ih (i := i) (by simpa using h)
      cases x with
      | none => exact q
      | some y => simp only [envTop]; exact Nat.le_trans q (Nat.le_max_right _ _)
theorem REnv.trim {ρ : Nat → Addr} {H : Hp} {st1 : Sto} {n : Nat} {env : Env} {σ : L2.St} (hn : n ≤ st1.length) (e : REnv K ρ st1.length H env σ) : REnv K ρ (trim n (envTop env) st1).length H env σ :=
  ⟨e.len, fun i d h => by obtain ⟨v, h1, h2⟩ := e.get i d h; exact ⟨v, h1, h2.trim hn (envTop_le h)⟩⟩
end RP

namespace RP
open PySem L2

/-! ### the weakest readings -/
def TW (X : Cx) (e : Expr) : TE := fun σ H Q => ∀ pins s, Inv X pins σ H s → wpAny (model X.prog X.w) X.A (eval e X.env) (EP X pins σ Q) X.xe s
def TWT (X : Cx) (e : Expr) : TT := fun σ H Q => ∀ pins s, Inv X pins σ H s → wpAny (model X.prog X.w) X.A (isTrue e X.env (eval e X.env)) (TP X pins σ Q) X.xe s
def TWA (X : Cx) (es : List Expr) : TA := fun σ H Q => ∀ pos pins s, Inv X pins σ H s → wpAny (model X.prog X.w) X.A (spliced (backTo pos (starEach es X.env))) (AP X pins σ Q) X.xe s
def TWS (X : Cx) (c : Stmt) : TS := fun D σ H => ∀ pins s, Inv X pins σ H s → wpAny (model X.prog X.w) X.A (exec c X.env) (SP X pins D) X.xe s
def TWSs (X : Cx) (cs : List Stmt) : TS := fun D σ H => ∀ pins s, Inv X pins σ H s → wpAny (model X.prog X.w) X.A (execs cs X.env) (SP X pins D) X.xe s
theorem pe_w {X : Cx} {e : Expr} : PE X e (TW X e) := ⟨fun pins s σ H Q I h => h pins s I⟩
theorem pt_w {X : Cx} {e : Expr} : PT X e (TWT X e) := ⟨fun pins s σ H Q I h => h pins s I⟩
theorem pa_w {X : Cx} {es : List Expr} : PA X es (TWA X es) := ⟨fun pos pins s σ H Q I h => h pos pins s I⟩
theorem ps_w {X : Cx} {c : Stmt} : PS X c (TWS X c) := ⟨fun pins s σ H D I h => h pins s I⟩
theorem pss_w {X : Cx} {cs : List Stmt} : PSs X cs (TWSs X cs) := ⟨fun pins s σ H D I h => h pins s I⟩
theorem TW.of {X : Cx} {e : Expr} {t : TE} {σ : St} {H : Hp} {Q : VK} (h : PE X e t) (q : t σ H Q) : TW X e σ H Q := fun pins s I => h.run pins s σ H Q I q
theorem TWT.of {X : Cx} {e : Expr} {t : TT} {σ : St} {H : Hp} {Q : Bool → Hp → Prop} (h : PT X e t) (q : t σ H Q) : TWT X e σ H Q := fun pins s I => h.run pins s σ H Q I q
theorem TWA.of {X : Cx} {es : List Expr} {t : TA} {σ : St} {H : Hp} {Q : List V → Hp → Prop} (h : PA X es t) (q : t σ H Q) : TWA X es σ H Q := fun pos pins s I => h.run pos pins s σ H Q I q
theorem TWS.of {X : Cx} {c : Stmt} {t : TS} {σ : St} {H : Hp} {D : Ends} (h : PS X c t) (q : t D σ H) : TWS X c D σ H := fun pins s I => h.run pins s σ H D I q
theorem TWSs.of {X : Cx} {cs : List Stmt} {t : TS} {σ : St} {H : Hp} {D : Ends} (h : PSs X cs t) (q : t D σ H) : TWSs X cs D σ H := fun pins s I => h.run pins s σ H D I q
theorem TW.mono {X : Cx} {e : Expr} {σ : St} {H : Hp} {Q Q' : VK} (h : TW X e σ H Q) (m : ∀ v H, Q v H → Q' v H) : TW X e σ H Q' := fun pins s I =>
  thn (h pins s I) fun u s1 ⟨v, H1, I1, r, q⟩ => ⟨v, H1, I1, r, m v H1 q⟩

/-! ### what is known where a piece of text runs -/
structure Ctx where
  N : List Str
  sc : Scope
  fns : List (Str × List Str)
  gls : List (Str × D)
  bs : List Str
  cel : Str → Bool
  P : List Fd
def Ctx.gl (Γ : Ctx) : List D := Γ.gls.map (·.2)
def Ctx.run (Γ : Ctx) (n : Nat) : CallF := callN Γ.gl Γ.P n

def FG (P : Program) (w : World) (K : PySem.W.Frag) (mg : Str → Option Value) (base : Heap) (n : Nat) (f : Addr) (fd : FuncData) (ps : List Str) (run : List D → Sto → Res D) : Prop :=
  ∀ (A : Around) (outer : List PySem.Env) (s : Shared) (H : Hp) (args : Args) (us : List Value) (vs : List V) (ds : List D) (st : Sto) (ρ : Nat → Addr) (Q : VK) (d : D) (st' : Sto),
    Room n A → A.guards = some [] → Env0 P w K mg base A outer s H → BindsTo s fd args (ps.zip us) → Vals vs us → vs.length = ps.length → RVs K ρ st.length H ds vs → Rep K ρ H st →
    run ds st = .ok d st' → (∀ v ρ' H', Go K ρ st H ρ' st' H' → RV K ρ' st'.length H' d v → Q v H') →
    codeAny (model P w) A (.call (.ref f) args) (fun r s' => ∃ u, r = .ok (.ret u) ∧ CE outer P w H s Q u s') s

structure Good (Γ : Ctx) (n : Nat) (X : Cx) : Prop where
  N : X.N = Γ.N
  nd : Γ.N.Nodup
  sc : X.env.scope = Γ.sc
  calm : X.calm = true
  room : Room n X.A
  guards : X.A.guards = some []
  fn : ∀ x, Γ.cel x = true → X.fn x = true
  kind : Γ.sc.kind = .function
  xe : X.xe = fun _ _ => False
  gl : ∀ (k : Nat) (x : Str) (d : D), Γ.gls[k]? = some (x, d) → ∃ v u, X.mg x = some u ∧ RelV v u ∧ ∀ ρ L H, RV X.K ρ L H d v
  blt : ∀ x ∈ Γ.bs, X.mg x = none
  fns : ∀ (k : Nat) (x : Str) (ps : List Str), Γ.fns[k]? = some (x, ps) → ∃ a fd, X.mg x = some (.ref a) ∧ PySem.W.keepIn X.K (.ref a) = true ∧ Binds X.K fd ps [] ∧ FG X.prog X.w X.K X.mg X.base n a fd ps (Γ.run n k)

def SimE (Γ : Ctx) (e : Expr) (i : E) : Prop := ∀ {n : Nat} {X : Cx}, Good Γ n X → ∀ {env : Env} {st : Sto} {d : D} {st' : Sto} {ρ : Nat → Addr} {σ : St} {H : Hp} {Q : VK},
  ev Γ.gl (Γ.run n) i env st = .ok d st' → REnv X.K ρ st.length H env σ → Rep X.K ρ H st →
  (∀ v ρ' H', Go X.K ρ st H ρ' st' H' → RV X.K ρ' st'.length H' d v → Q v H') → TW X e σ H Q
def SimT (Γ : Ctx) (e : Expr) (i : E) : Prop := ∀ {n : Nat} {X : Cx}, Good Γ n X → ∀ {env : Env} {st : Sto} {d : D} {b : Bool} {st' : Sto} {ρ : Nat → Addr} {σ : St} {H : Hp} {Q : Bool → Hp → Prop},
  ev Γ.gl (Γ.run n) i env st = .ok d st' → tru d st' = some b → REnv X.K ρ st.length H env σ → Rep X.K ρ H st →
  (∀ ρ' H', Go X.K ρ st H ρ' st' H' → Q b H') → TWT X e σ H Q
def SimA (Γ : Ctx) (es : List Expr) (is : Es) : Prop := ∀ {n : Nat} {X : Cx}, Good Γ n X → ∀ {env : Env} {st : Sto} {ds : List D} {st' : Sto} {ρ : Nat → Addr} {σ : St} {H : Hp} {Q : List V → Hp → Prop},
  evs Γ.gl (Γ.run n) is env st = .ok ds st' → REnv X.K ρ st.length H env σ → Rep X.K ρ H st →
  (∀ vs ρ' H', Go X.K ρ st H ρ' st' H' → RVs X.K ρ' st'.length H' ds vs → Q vs H') → TWA X es σ H Q

variable {Γ : Ctx}

theorem RVs.empty {K : PySem.W.Frag} {ρ : Nat → Addr} {L : Nat} {H : Hp} {ds : List D} {vs : List V} (r : RVs K ρ L H ds vs) : ds.isEmpty = vs.isEmpty := by
  cases r <;> rfl
theorem tru_ok {K : PySem.W.Frag} {ρ : Nat → Addr} {H : Hp} {st : Sto} {d : D} {v : V} {b : Bool} (r : Rep K ρ H st) (h : RV K ρ st.length H d v) (e : tru d st = some b) : TruV K v H b := by
  cases h with
  | non => cases e; rfl
  | bl b => cases e; rfl
  | int i => cases e; rfl
  | str x =>
    simp only [tru] at e
    split at e
    · rename_i hl; cases e; exact ⟨hl, rfl⟩
    · cases e
  | tup h rs =>
    rename_i a vs ds
    cases e
    refine .inr (.inl ⟨vs, h, ?_⟩)
    cases rs <;> rfl
  | ref hn =>
    rename_i n
    simp only [tru] at e
    cases q : st[n]? with
    | none => rw [q] at e; cases e
    | some o =>
      rw [q] at e
      cases e
      obtain ⟨vs, h1, h2⟩ := r.seq q
      exact .inl ⟨vs, h1, by rw [h2.empty]⟩

theorem sim_v {x : Str} {pos : Pos} {i : Nat} (hN : Γ.N[i]? = some x) (hv : Vis Γ.sc x) (hd : (x == ("__debug__" : Str)) = false) (hc : (x == ("__classdict__" : Str)) = false) : SimE Γ (.Name x pos) (.v i) := by
  intro n X G env st d st' ρ σ H Q h re rp q
  simp only [ev] at h
  unfold lkV at h
  split at h
  · rename_i y e
    cases h
    obtain ⟨v, h1, h2⟩ := re.get i _ e
    exact TW.of (pe_var (i := i) (by rw [G.N]; exact hN) (by rw [G.sc]; exact hv) hd hc) ⟨v, h1, q v ρ H (Go.refl rp) h2⟩
  · cases h

theorem sim_k {e : Expr} {d : D} {v : V} (hp : ∀ X : Cx, PE X e (tC v)) (hv : ∀ K ρ L H, RV K ρ L H d v) : SimE Γ e (.k d) := by
  intro n X G env st d' st' ρ σ H Q h re rp q
  have h' : Res.ok d st = Res.ok d' st' := by simpa [ev] using h
  cases h'
  exact TW.of (hp X) (q v ρ H (Go.refl rp) (hv _ _ _ _))
theorem sim_int {i : Int} {j : Nat} {pos : Pos} : SimE Γ (.Constant (.int i) j pos) (.k (.int i)) := sim_k (fun _ => pe_int) fun _ _ _ _ => .int i
theorem sim_bl {b : Bool} {j : Nat} {pos : Pos} : SimE Γ (.Constant (.bool b) j pos) (.k (.bl b)) := sim_k (fun _ => pe_bl) fun _ _ _ _ => .bl b
theorem sim_non {j : Nat} {pos : Pos} : SimE Γ (.Constant .none j pos) (.k .non) := sim_k (fun _ => pe_non) fun _ _ _ _ => .non
theorem sim_str {x : Str} {j : Nat} {pos : Pos} : SimE Γ (.Constant (.str x) j pos) (.k (.str x)) := sim_k (fun _ => pe_str) fun _ _ _ _ => .str x

theorem gl_of {k : Nat} {x : Str} {d : D} (h : Γ.gls[k]? = some (x, d)) : Γ.gl[k]? = some d := by
  simp [Ctx.gl, h]
theorem sim_g {x : Str} {pos : Pos} {k : Nat} {d : D} (hk : Γ.gls[k]? = some (x, d)) (hs : Γ.sc.names.lookup x = some .globalImplicit) (hd : (x == ("__debug__" : Str)) = false) : SimE Γ (.Name x pos) (.g k) := by
  intro n X G env st d' st' ρ σ H Q h re rp q
  have h' : Res.ok d st = Res.ok d' st' := by simpa [ev, gl_of hk, lkG] using h
  cases h'
  obtain ⟨v, u, h1, h2, h3⟩ := G.gl k x d hk
  exact TW.of (pe_glob (by show X.env.scope.names.lookup x = _; rw [G.sc]; exact hs) h1 h2 hd) (q v ρ H (Go.refl rp) (h3 _ _ _))

/-! ### argument lists -/
def star : Expr → Bool
  | .Starred _ _ => true
  | _ => false
theorem starEach_cons {e : Expr} (h : star e = false) (es : List Expr) (env : PySem.Env) : starEach (e :: es) env = (false, eval e env) :: starEach es env := by
  cases e <;> first | rfl | (simp [star] at h)
theorem sim_nil : SimA Γ [] .nil := by
  intro n X G env st ds st' ρ σ H Q h re rp q
  have h' : Res.ok [] st = Res.ok ds st' := by simpa [evs] using h
  cases h'
  exact TWA.of pa_nil (q [] ρ H (Go.refl rp) .nil)
theorem sim_cons {e : Expr} {es : List Expr} {i : E} {is : Es} (hs : star e = false) (h1 : SimE Γ e i) (h2 : SimA Γ es is) : SimA Γ (e :: es) (.cons i is) := by
  intro n X G env st ds st' ρ σ H Q h re rp q
  simp only [evs] at h
  obtain ⟨x, s1, e1, h⟩ := Res.bind_eq_ok h
  obtain ⟨xs, s2, e2, h⟩ := Res.bind_eq_ok h
  cases h
  refine TWA.of (pa_cons pe_w pa_w (starEach_cons hs _ _)) (h1 G e1 re rp fun v ρ1 H1 g1 r1 => h2 G e2 (re.move g1) g1.rep fun vs ρ2 H2 g2 r2 => ?_)
  exact q (v :: vs) ρ2 H2 (g1.trans g2) (.cons (g2.rv r1) r2)

theorem sim_tup {es : List Expr} {is : Es} {k : Nat} {pos : Pos} (h1 : SimA Γ es is) : SimE Γ (.Tuple es k pos) (.tup is) := by
  intro n X G env st d st' ρ σ H Q h re rp q
  simp only [ev] at h
  obtain ⟨xs, s1, e1, h⟩ := Res.bind_eq_ok h
  split at h
  · rename_i hz
    cases h
    refine TW.of (pe_tup pa_w) (h1 G e1 re rp fun vs ρ1 H1 g1 r1 => ⟨by rw [← r1.length]; exact hz, fun p hp => ?_⟩)
    have g2 := Go.fresh (o := .tup vs) g1.rep hp
    exact q (.ref p) ρ1 _ (g1.trans g2) (.tup (SqT.of upd_same) (g2.rvs r1))
  · cases h
theorem sim_lst {es : List Expr} {is : Es} {pos : Pos} (h1 : SimA Γ es is) : SimE Γ (.List es pos) (.lst is) := by
  intro n X G env st d st' ρ σ H Q h re rp q
  simp only [ev] at h
  obtain ⟨xs, s1, e1, h⟩ := Res.bind_eq_ok h
  split at h
  · rename_i hz
    cases h
    refine TW.of (pe_lst pa_w) (h1 G e1 re rp fun vs ρ1 H1 g1 r1 => ⟨by rw [← r1.length]; exact hz, fun p hp => ?_⟩)
    have g2 := Go.newL g1.rep hp r1
    exact q (.ref p) _ _ (g1.trans g2) RV.last
  · cases h

/-! ### operators -/
def rAll (X : Cx) (f : Value → Value → Sem Value) : V → V → Hp → VK → Prop := fun v u H Q => ∃ r, OpR X f r ∧ r v u H Q
theorem opAll {X : Cx} {f : Value → Value → Sem Value} : OpR X f (rAll X f) := fun pins s σ H x y v u Q I rx ry ⟨r, h, q⟩ => h pins s σ H x y v u Q I rx ry q
def Bin.op : Bin → Operator
  | .add => .Add | .sub => .Sub | .mul => .Mult | .fdiv => .FloorDiv | .mod => .Mod | .pow => .Pow
def Cmp.op : Cmp → CmpOp
  | .lt => .Lt | .le => .LtE | .gt => .Gt | .ge => .GtE | .eq => .Eq | .ne => .NotEq | .isN => .Is | .notN => .IsNot | .isin => .In | .notin => .NotIn

def CPowW (i j : Int) : Prop := 0 ≤ j ∧ (Builtin.Int.intBits i : Int) * j ≤ 2 ^ 27
theorem op_powW {X : Cx} : OpR X (binaryOp .Pow) (rI CPowW fun i j => .int (i ^ j.toNat)) := opI fun _ _ _ _ _ _ _ hc q => PyProof.Rows.pow_int hc.1 hc.2 q

theorem mulOk.w {i j : Int} (h : mulOk i j = true) : CMulW i j := by unfold mulOk at h; simpa [CMulW] using h
theorem divOk.w {i j : Int} (h : divOk j = true) : CDivW i j := by unfold divOk at h; simpa [CDivW] using h
theorem powOk.w {i j : Int} (h : powOk i j = true) : CPowW i j := by unfold powOk at h; simpa [CPowW] using h
theorem bin_ok {X : Cx} {n : Nat} (G : Good Γ n X) {o : Bin} {x y d : D} {st st' : Sto} {ρ : Nat → Addr} {H : Hp} {v u : V} {Q : VK} (h : bin o x y st = .ok d st') (rx : RV X.K ρ st.length H x v) (ry : RV X.K ρ st.length H y u) (rp : Rep X.K ρ H st)
    (q : ∀ v ρ' H', Go X.K ρ st H ρ' st' H' → RV X.K ρ' st'.length H' d v → Q v H') : rAll X (binaryOp o.op) v u H Q := by
  unfold bin at h
  split at h
  · cases h; cases rx; cases ry
    exact ⟨_, op_add, _, _, rfl, rfl, q _ _ _ (Go.refl rp) (.int _)⟩
  · cases h; cases rx; cases ry
    exact ⟨_, op_sub, _, _, rfl, rfl, q _ _ _ (Go.refl rp) (.int _)⟩
  · split at h
    · rename_i hc
      cases h; cases rx; cases ry
      exact ⟨_, op_mulW, _, _, rfl, rfl, mulOk.w hc, q _ _ _ (Go.refl rp) (.int _)⟩
    · cases h
  · split at h
    · rename_i hc
      cases h; cases rx; cases ry
      exact ⟨_, op_fdivW, _, _, rfl, rfl, divOk.w hc, q _ _ _ (Go.refl rp) (.int _)⟩
    · cases h
  · split at h
    · rename_i hc
      cases h; cases rx; cases ry
      exact ⟨_, op_mod, _, _, rfl, rfl, hc, q _ _ _ (Go.refl rp) (.int _)⟩
    · cases h
  · split at h
    · rename_i hc
      cases h; cases rx; cases ry
      exact ⟨_, op_powW, _, _, rfl, rfl, powOk.w hc, q _ _ _ (Go.refl rp) (.int _)⟩
    · cases h
  · split at h
    · rename_i hc
      cases h; cases rx; cases ry
      exact ⟨_, op_add_str, _, _, rfl, rfl, hc, q _ _ _ (Go.refl rp) (.str _)⟩
    · cases h
  · split at h
    · rename_i hc
      cases h
      cases rx with
      | tup h1 r1 =>
        cases ry with
        | tup h2 r2 =>
          rename_i b us' a vs'
          refine ⟨_, op_catA, _, _, _, _, rfl, rfl, h1, h2, by rw [← r1.length, ← r2.length]; exact hc, fun z => ?_, fun z1 z2 => ?_, fun z1 z2 p hp => ?_⟩
          · subst z; cases r1
            exact q _ _ _ (Go.refl rp) (.tup h2 r2)
          · subst z2; cases r2
            refine q _ _ _ (Go.refl rp) ?_
            rw [List.append_nil]
            exact .tup h1 r1
          · exact q _ _ _ (Go.fresh rp hp) (.tup (SqT.of upd_same) ((Go.fresh rp hp).rvs (r1.app r2)))
    · cases h
  · split at h
    · split at h
      · rename_i m k xs ys e1 e2 hc
        cases h
        cases rx with
        | ref l1 =>
          cases ry with
          | ref l2 =>
            obtain ⟨vs, h1, r1⟩ := rp.lst _ _ e1
            obtain ⟨us, h2, r2⟩ := rp.lst _ _ e2
            refine ⟨_, op_cat, _, _, _, _, rfl, rfl, h1, h2, by rw [← r1.length, ← r2.length]; exact hc, fun p hp => ?_⟩
            exact q _ _ _ (Go.newL rp hp (r1.app r2)) RV.last
      · cases h
    · cases h
  · split at h
    · split at h
      · rename_i m k xs e1 hc
        cases h
        cases rx with
        | ref l1 =>
          cases ry
          obtain ⟨vs, h1, r1⟩ := rp.lst _ _ e1
          refine ⟨_, op_rep, _, _, _, rfl, rfl, h1, hc.1, hc.2.1, by rw [← r1.length]; exact hc.2.2, fun p hp => ?_⟩
          exact q _ _ _ (Go.newL rp hp (r1.rep _)) RV.last
      · cases h
    · cases h
  · cases h
theorem sim_bin {a b : Expr} {i j : E} {o : Bin} {pos : Pos} (h1 : SimE Γ a i) (h2 : SimE Γ b j) : SimE Γ (.BinOp a o.op b pos) (.bin o i j) := by
  intro n X G env st d st' ρ σ H Q h re rp q
  simp only [ev] at h
  obtain ⟨x, s1, e1, h⟩ := Res.bind_eq_ok h
  obtain ⟨y, s2, e2, h⟩ := Res.bind_eq_ok h
  refine TW.of (pe_op opAll pe_w pe_w) (h1 G e1 re rp fun v ρ1 H1 g1 r1 => h2 G e2 (re.move g1) g1.rep fun u ρ2 H2 g2 r2 => ?_)
  exact bin_ok G h (g2.rv r1) r2 g2.rep fun w ρ3 H3 g3 r3 => q w ρ3 H3 ((g1.trans g2).trans g3) r3
end RP

namespace RP
open PySem L2

/-! ### data behind a value -/
mutual
theorem pyW_ok {K : PySem.W.Frag} {ρ : Nat → Addr} {L : Nat} {H : Hp} {rd : Nat → Option PyData} (hr : ∀ n p, rd n = some p → Dp K H (.ref (ρ n)) p) : ∀ {d : D} {v : V} {p : PyData}, pyW rd d = some p → RV K ρ L H d v → Dp K H v p
  | .non, _, _, e, .non => by cases e; exact .non
  | .bl b, _, _, e, .bl _ => by cases e; exact .bl b
  | .int i, _, _, e, .int _ => by cases e; exact .int i
  | .str x, _, _, e, .str _ => by cases e; exact .str x
  | .tup xs, _, p, e, .tup h r => by
    simp only [pyW] at e
    cases q : pysW rd xs with
    | none => rw [q] at e; cases e
    | some ps => rw [q] at e; cases e; exact .tup h (pysW_ok hr q r)
  | .ref n, _, p, e, .ref _ => hr n p e
theorem pysW_ok {K : PySem.W.Frag} {ρ : Nat → Addr} {L : Nat} {H : Hp} {rd : Nat → Option PyData} (hr : ∀ n p, rd n = some p → Dp K H (.ref (ρ n)) p) : ∀ {d : List D} {v : List V} {p : List PyData}, pysW rd d = some p → RVs K ρ L H d v → DpAll K H v p
  | [], _, _, e, .nil => by cases e; exact .nil
  | x :: xs, _, p, e, .cons h r => by
    simp only [pysW] at e
    cases q1 : pyW rd x with
    | none => rw [q1] at e; cases e
    | some a =>
      rw [q1] at e
      cases q2 : pysW rd xs with
      | none => rw [q2] at e; cases e
      | some as => rw [q2] at e; cases e; exact .cons (pyW_ok hr q1 h) (pysW_ok hr q2 r)
end
theorem rdN_ok {K : PySem.W.Frag} {ρ : Nat → Addr} {H : Hp} {st : Sto} (rp : Rep K ρ H st) : ∀ (f n : Nat) (p : PyData), rdN st f n = some p → Dp K H (.ref (ρ n)) p
  | 0, n, p, e => by cases e
  | f + 1, n, p, e => by
    simp only [rdN] at e
    cases q : st[n]? with
    | none => rw [q] at e; cases e
    | some o =>
      rw [q] at e
      obtain ⟨vs, h1, h2⟩ := rp.seq q
      cases q2 : pysW (rdN st f) o.items with
      | none => simp only [q2] at e; cases e
      | some ps => simp only [q2] at e; cases e; exact .lst h1 (pysW_ok (rdN_ok rp f) q2 h2)
theorem toPy_ok {K : PySem.W.Frag} {ρ : Nat → Addr} {H : Hp} {st : Sto} (rp : Rep K ρ H st) {d : D} {v : V} {p : PyData} (e : toPy st d = some p) (r : RV K ρ st.length H d v) : Dp K H v p := pyW_ok (rdN_ok rp 4) e r

def rEqM (K : PySem.W.Frag) (neg : Bool) : V → V → Hp → VK → Prop := fun x y H Q => ∃ d e, Dp K H x d ∧ Dp K H y e ∧ d.canLay0 = true ∧ e.canLay0 = true ∧ min d.depth e.depth ≤ 64 ∧ Q (.bl (if neg then !PyData.eqv d e else PyData.eqv d e)) H
theorem op_eqM {X : Cx} (hu : X.A.units + 64 < cLine) : OpR X (compareOp .Eq) (rEqM X.K false) := by
  intro pins s σ H x y v u Q I rx ry h
  obtain ⟨d, e, hd, he, ld, le, hm, q⟩ := h
  obtain ⟨as, r1⟩ := Dp.reads I d x v hd rx
  obtain ⟨bs, r2⟩ := Dp.reads I e y u he ry
  exact SeqAt.compareEq_reads r1 r2 ld le (by omega) ⟨.bl _, H, I, rfl, q⟩
theorem op_neM {X : Cx} (hu : X.A.units + 64 < cLine) : OpR X (compareOp .NotEq) (rEqM X.K true) := by
  intro pins s σ H x y v u Q I rx ry h
  obtain ⟨d, e, hd, he, ld, le, hm, q⟩ := h
  obtain ⟨as, r1⟩ := Dp.reads I d x v hd rx
  obtain ⟨bs, r2⟩ := Dp.reads I e y u he ry
  exact SeqAt.compareNe_reads r1 r2 ld le (by omega) ⟨.bl _, H, I, rfl, q⟩

theorem flat_ok {K : PySem.W.Frag} {ρ : Nat → Addr} {L : Nat} {H : Hp} {d : D} {v : V} (f : flat d = true) (r : RV K ρ L H d v) : flatV v = true := by
  cases r <;> first | rfl | cases f
theorem eqF_ok {K : PySem.W.Frag} {ρ : Nat → Addr} {L : Nat} {H : Hp} {d e : D} {v u : V} (f : flat d = true) (f' : flat e = true) (r : RV K ρ L H d v) (r' : RV K ρ L H e u) : eqF d e = eqV v u := by
  cases r <;> first | (cases f; done) | (cases r' <;> first | rfl | (cases f'; done))
theorem flats_ok {K : PySem.W.Frag} {ρ : Nat → Addr} {L : Nat} {H : Hp} {x : D} {v : V} (fx : flat x = true) (rx : RV K ρ L H x v) : ∀ {ds : List D} {vs : List V}, ds.all flat = true → RVs K ρ L H ds vs → vs.all flatV = true ∧ (ds.any fun y => eqF y x) = inV v vs
  | _, _, _, .nil => ⟨rfl, rfl⟩
  | _, _, f, .cons h r => by
    simp only [List.all_cons, Bool.and_eq_true] at f
    obtain ⟨h1, h2⟩ := flats_ok fx rx f.2 r
    refine ⟨by simp only [List.all_cons, Bool.and_eq_true]; exact ⟨flat_ok f.1 h, h1⟩, ?_⟩
    unfold inV at h2 ⊢
    rw [List.any_cons, List.any_cons, h2, eqF_ok f.1 fx h rx]
theorem seqOf_ok {K : PySem.W.Frag} {ρ : Nat → Addr} {H : Hp} {st : Sto} (rp : Rep K ρ H st) {d : D} {v : V} {xs : List D} (e : seqOf d st = some xs) (r : RV K ρ st.length H d v) : ∃ p vs, v = .ref p ∧ (SqL K H p vs ∨ SqT K H p vs) ∧ RVs K ρ st.length H xs vs := by
  cases r with
  | tup h rs => cases e; exact ⟨_, _, rfl, .inr h, rs⟩
  | ref hn =>
    rename_i n
    simp only [seqOf] at e
    cases q : st[n]? with
    | none => rw [q] at e; cases e
    | some o =>
      rw [q] at e; cases e
      obtain ⟨vs, h1, h2⟩ := rp.seq q
      exact ⟨_, vs, rfl, .inl h1, h2⟩
  | _ => cases e

theorem ofB_ok {r : Option Bool} {st st' : Sto} {d : D} (h : ofB r st = .ok d st') : ∃ b, r = some b ∧ d = .bl b ∧ st' = st := by
  cases r with
  | none => cases h
  | some b => cases h; exact ⟨b, rfl, rfl, rfl⟩
theorem map_some {α β : Type} {r : Option α} {f : α → β} {b : β} (h : r.map f = some b) : ∃ a, r = some a ∧ f a = b := by
  cases r with
  | none => cases h
  | some a => cases h; exact ⟨a, rfl, rfl⟩

variable {Γ : Ctx}
theorem eqP_ok {X : Cx} {ρ : Nat → Addr} {H : Hp} {st : Sto} {x y : D} {v u : V} {b : Bool} (e : eqP x y st = some b) (rp : Rep X.K ρ H st) (rx : RV X.K ρ st.length H x v) (ry : RV X.K ρ st.length H y u) :
    ∃ d e, Dp X.K H v d ∧ Dp X.K H u e ∧ d.canLay0 = true ∧ e.canLay0 = true ∧ min d.depth e.depth ≤ 64 ∧ PyData.eqv d e = b := by
  unfold eqP at e
  split at e
  · rename_i p q hp hq
    split at e
    · rename_i c
      cases e
      exact ⟨p, q, toPy_ok rp hp rx, toPy_ok rp hq ry, c.1, c.2.1, c.2.2, rfl⟩
    · cases e
  · cases e
theorem eqS_dec {a b : Str} : decide (V.str a = V.str b) = decide (a = b) := by
  rw [Bool.eq_iff_iff]; simp
theorem eqD_ok {X : Cx} (hu : X.A.units + 64 < cLine) {ρ : Nat → Addr} {H : Hp} {st : Sto} {x y : D} {v u : V} {b : Bool} {Q : VK} (e : eqD x y st = some b) (rp : Rep X.K ρ H st) (rx : RV X.K ρ st.length H x v) (ry : RV X.K ρ st.length H y u) (q : Q (.bl b) H) : rAll X (compareOp .Eq) v u H Q := by
  unfold eqD at e
  split at e
  · cases rx; cases ry; cases e
    exact ⟨_, op_eq, rfl, by rw [eqS_dec]; exact q⟩
  · obtain ⟨p, r, h1, h2, h3, h4, h5, h6⟩ := eqP_ok e rp rx ry
    exact ⟨_, op_eqM hu, p, r, h1, h2, h3, h4, h5, by simpa [h6] using q⟩
theorem neD_ok {X : Cx} (hu : X.A.units + 64 < cLine) {ρ : Nat → Addr} {H : Hp} {st : Sto} {x y : D} {v u : V} {b : Bool} {Q : VK} (e : eqD x y st = some b) (rp : Rep X.K ρ H st) (rx : RV X.K ρ st.length H x v) (ry : RV X.K ρ st.length H y u) (q : Q (.bl (!b)) H) : rAll X (compareOp .NotEq) v u H Q := by
  unfold eqD at e
  split at e
  · cases rx; cases ry; cases e
    exact ⟨_, op_ne, rfl, by rw [eqS_dec]; exact q⟩
  · obtain ⟨p, r, h1, h2, h3, h4, h5, h6⟩ := eqP_ok e rp rx ry
    exact ⟨_, op_neM hu, p, r, h1, h2, h3, h4, h5, by simpa [h6] using q⟩
theorem cmp_ok {X : Cx} {n : Nat} (G : Good Γ n X) {o : Cmp} {x y d : D} {st st' : Sto} {ρ : Nat → Addr} {H : Hp} {v u : V} {Q : VK} (h : cmp o x y st = .ok d st') (rx : RV X.K ρ st.length H x v) (ry : RV X.K ρ st.length H y u) (rp : Rep X.K ρ H st)
    (q : ∀ b, d = .bl b → st' = st → Q (.bl b) H) : rAll X (compareOp o.op) v u H Q := by
  have hu : X.A.units + 64 < cLine := G.room.units
  unfold cmp at h
  split at h
  · cases h; cases rx; cases ry; exact ⟨_, op_lt, _, _, rfl, rfl, q _ rfl rfl⟩
  · cases h; cases rx; cases ry; exact ⟨_, op_le, _, _, rfl, rfl, q _ rfl rfl⟩
  · cases h; cases rx; cases ry; exact ⟨_, op_gt, _, _, rfl, rfl, q _ rfl rfl⟩
  · cases h; cases rx; cases ry; exact ⟨_, op_ge, _, _, rfl, rfl, q _ rfl rfl⟩
  · obtain ⟨b, e, rfl, rfl⟩ := ofB_ok h
    exact eqD_ok hu e rp rx ry (q _ rfl rfl)
  · obtain ⟨b, e, rfl, rfl⟩ := ofB_ok h
    obtain ⟨a, e2, rfl⟩ := map_some e
    exact neD_ok hu e2 rp rx ry (q _ rfl rfl)
  · cases h; cases ry
    refine ⟨_, op_isN, rfl, ?_⟩
    cases rx <;> exact q _ rfl rfl
  · cases h; cases ry
    refine ⟨_, op_notN, rfl, ?_⟩
    cases rx <;> exact q _ rfl rfl
  · obtain ⟨b, e, rfl, rfl⟩ := ofB_ok h
    unfold inD at e
    split at e
    · rename_i xs hs
      split at e
      · rename_i c
        cases e
        simp only [Bool.and_eq_true] at c
        obtain ⟨p, vs, rfl, h1, h2⟩ := seqOf_ok rp hs ry
        obtain ⟨f1, f2⟩ := flats_ok c.1 rx c.2 h2
        exact ⟨_, op_in_seq, p, vs, rfl, h1, flat_ok c.1 rx, f1, q _ (by rw [f2]; rfl) rfl⟩
      · cases e
    · cases e
  · obtain ⟨b, e, rfl, rfl⟩ := ofB_ok h
    obtain ⟨a, e2, rfl⟩ := map_some e
    clear h e
    unfold inD at e2
    split at e2
    · rename_i xs hs
      split at e2
      · rename_i c
        cases e2
        simp only [Bool.and_eq_true] at c
        obtain ⟨p, vs, rfl, h1, h2⟩ := seqOf_ok rp hs ry
        obtain ⟨f1, f2⟩ := flats_ok c.1 rx c.2 h2
        exact ⟨_, op_notIn_seq, p, vs, rfl, h1, flat_ok c.1 rx, f1, q _ (by rw [f2]; rfl) rfl⟩
      · cases e2
    · cases e2
  · cases h
/-- a right side that is no set display -/
def nset : Expr → Bool
  | .Set _ _ _ => false
  | _ => true
theorem marks {op : CmpOp} {b : Expr} (h : nset b = true) : behindInMarks op b = false := by
  cases b <;> first | rfl | cases h
theorem sim_cmp {a b : Expr} {i j : E} {o : Cmp} {pos : Pos} (hb : nset b = true) (h1 : SimE Γ a i) (h2 : SimE Γ b j) : SimE Γ (.Compare a [o.op] [b] pos) (.cmp o i j) := by
  intro n X G env st d st' ρ σ H Q h re rp q
  simp only [ev] at h
  obtain ⟨x, s1, e1, h⟩ := Res.bind_eq_ok h
  obtain ⟨y, s2, e2, h⟩ := Res.bind_eq_ok h
  refine TW.of (pe_cmpR opAll pe_w pe_w (marks hb)) (h1 G e1 re rp fun v ρ1 H1 g1 r1 => h2 G e2 (re.move g1) g1.rep fun u ρ2 H2 g2 r2 => ?_)
  refine cmp_ok G h (g2.rv r1) r2 g2.rep fun b e es => ?_
  subst e; subst es
  exact q _ ρ2 H2 (g1.trans g2) (.bl _)
theorem test_cmp {a b : Expr} {i j : E} {o : Cmp} {pos : Pos} (hb : nset b = true) (h1 : SimE Γ a i) (h2 : SimE Γ b j) : SimT Γ (.Compare a [o.op] [b] pos) (.cmp o i j) := by
  intro n X G env st d k st' ρ σ H Q h ht re rp q
  simp only [ev] at h
  obtain ⟨x, s1, e1, h⟩ := Res.bind_eq_ok h
  obtain ⟨y, s2, e2, h⟩ := Res.bind_eq_ok h
  refine TWT.of (pt_cmpR opAll pe_w pe_w (marks hb)) (h1 G e1 re rp fun v ρ1 H1 g1 r1 => h2 G e2 (re.move g1) g1.rep fun u ρ2 H2 g2 r2 => ?_)
  refine cmp_ok G h (g2.rv r1) r2 g2.rep fun b e es => ?_
  subst e; subst es
  cases ht
  exact ⟨_, rfl, q ρ2 H2 (g1.trans g2)⟩
theorem marks2 {o p : CmpOp} {b c : Expr} (h : nset c = true) : lastMarks [o, p] [b, c] = false := marks h
theorem sim_chain {a b c : Expr} {i j k : E} {o p : Cmp} {pos : Pos} (hb : nset c = true) (h1 : SimE Γ a i) (h2 : SimE Γ b j) (h3 : SimE Γ c k) : SimE Γ (.Compare a [o.op, p.op] [b, c] pos) (.chain o p i j k) := by
  intro n X G env st d st' ρ σ H Q h re rp q
  simp only [ev] at h
  obtain ⟨x, s1, e1, h⟩ := Res.bind_eq_ok h
  obtain ⟨y, s2, e2, h⟩ := Res.bind_eq_ok h
  obtain ⟨z, s3, e3, h⟩ := Res.bind_eq_ok h
  refine TW.of (pe_chain opAll opAll pe_w pe_w pe_w (marks2 hb)) (h1 G e1 re rp fun v ρ1 H1 g1 r1 => h2 G e2 (re.move g1) g1.rep fun u ρ2 H2 g2 r2 => ?_)
  refine cmp_ok G e3 (g2.rv r1) r2 g2.rep fun b e es => ?_
  subst e; subst es
  refine ⟨b, rfl, ?_⟩
  unfold br isB at h
  cases b with
  | true =>
    simp only [if_true]
    obtain ⟨w, s4, e4, h⟩ := Res.bind_eq_ok h
    refine h3 G e4 (re.move (g1.trans g2)) g2.rep fun t ρ4 H4 g4 r4 => ?_
    refine cmp_ok G h (g4.rv r2) r4 g4.rep fun b e es => ?_
    subst e; subst es
    exact q _ ρ4 H4 ((g1.trans g2).trans g4) (.bl _)
  | false =>
    cases h
    exact q _ ρ2 H2 (g1.trans g2) (.bl _)
theorem test_chain {a b c : Expr} {i j k : E} {o p : Cmp} {pos : Pos} (hb : nset c = true) (h1 : SimE Γ a i) (h2 : SimE Γ b j) (h3 : SimE Γ c k) : SimT Γ (.Compare a [o.op, p.op] [b, c] pos) (.chain o p i j k) := by
  intro n X G env st d kk st' ρ σ H Q h ht re rp q
  simp only [ev] at h
  obtain ⟨x, s1, e1, h⟩ := Res.bind_eq_ok h
  obtain ⟨y, s2, e2, h⟩ := Res.bind_eq_ok h
  obtain ⟨z, s3, e3, h⟩ := Res.bind_eq_ok h
  refine TWT.of (pt_chain opAll opAll pe_w pe_w pe_w (marks2 hb)) (h1 G e1 re rp fun v ρ1 H1 g1 r1 => h2 G e2 (re.move g1) g1.rep fun u ρ2 H2 g2 r2 => ?_)
  refine cmp_ok G e3 (g2.rv r1) r2 g2.rep fun b e es => ?_
  subst e; subst es
  refine ⟨b, rfl, ?_⟩
  unfold br isB at h
  cases b with
  | true =>
    simp only [if_true]
    obtain ⟨w, s4, e4, h⟩ := Res.bind_eq_ok h
    refine h3 G e4 (re.move (g1.trans g2)) g2.rep fun t ρ4 H4 g4 r4 => ?_
    refine cmp_ok G h (g4.rv r2) r4 g4.rep fun b e es => ?_
    subst e; subst es
    cases ht
    exact ⟨_, rfl, q ρ4 H4 ((g1.trans g2).trans g4)⟩
  | false =>
    cases h
    cases ht
    exact ⟨_, rfl, q ρ2 H2 (g1.trans g2)⟩

/-! ### truth, not, and, or, if -/
/-- a test that is asked as its value is -/
def plainT : Expr → Bool
  | .UnaryOp .Not _ _ => false
  | .BoolOp _ _ _ => false
  | .IfExp _ _ _ _ => false
  | .Compare _ _ _ _ => false
  | _ => true
theorem isTrue_of {e : Expr} (h : plainT e = true) (env : PySem.Env) (whole : Sem Value) : isTrue e env whole = (do let v ← whole; standAt e.pos; holding [v] (truthy v)) := by
  cases e with
  | UnaryOp op a p => cases op <;> first | rfl | cases h
  | _ => first | rfl | cases h
theorem test_plain {e : Expr} {i : E} (hp : plainT e = true) (h1 : SimE Γ e i) : SimT Γ e i := by
  intro n X G env st d k st' ρ σ H Q h ht re rp q
  exact TWT.of (pt_truth pe_w (isTrue_of hp _)) (h1 G h re rp fun v ρ1 H1 g1 r1 => ⟨k, tru_ok g1.rep r1 ht, q ρ1 H1 g1⟩)
theorem sim_neg {a : Expr} {i : E} {pos : Pos} (h1 : SimE Γ a i) : SimE Γ (.UnaryOp .USub a pos) (.neg i) := by
  intro n X G env st d st' ρ σ H Q h re rp q
  simp only [ev] at h
  obtain ⟨x, s1, e1, h⟩ := Res.bind_eq_ok h
  unfold negD at h
  split at h
  · cases h
    refine TW.of (pe_un un_neg pe_w) (h1 G e1 re rp fun v ρ1 H1 g1 r1 => ?_)
    cases r1
    exact ⟨_, rfl, q _ ρ1 H1 g1 (.int _)⟩
  · cases h
theorem sim_not {a : Expr} {i : E} {pos : Pos} (h1 : SimE Γ a i) : SimE Γ (.UnaryOp .Not a pos) (.not i) := by
  intro n X G env st d st' ρ σ H Q h re rp q
  simp only [ev] at h
  obtain ⟨x, s1, e1, h⟩ := Res.bind_eq_ok h
  unfold br at h
  split at h
  · rename_i hb
    cases h
    exact TW.of (pe_notT pe_w) (h1 G e1 re rp fun v ρ1 H1 g1 r1 => ⟨true, tru_ok g1.rep r1 hb, q _ ρ1 H1 g1 (.bl _)⟩)
  · rename_i hb
    cases h
    exact TW.of (pe_notT pe_w) (h1 G e1 re rp fun v ρ1 H1 g1 r1 => ⟨false, tru_ok g1.rep r1 hb, q _ ρ1 H1 g1 (.bl _)⟩)
  · cases h
theorem test_not {a : Expr} {i : E} {pos : Pos} (h1 : SimT Γ a i) : SimT Γ (.UnaryOp .Not a pos) (.not i) := by
  intro n X G env st d k st' ρ σ H Q h ht re rp q
  simp only [ev] at h
  obtain ⟨x, s1, e1, h⟩ := Res.bind_eq_ok h
  unfold br at h
  split at h
  · rename_i hb
    cases h
    cases ht
    exact TWT.of (pt_not pt_w) (h1 G e1 hb re rp fun ρ1 H1 g1 => q ρ1 H1 g1)
  · rename_i hb
    cases h
    cases ht
    exact TWT.of (pt_not pt_w) (h1 G e1 hb re rp fun ρ1 H1 g1 => q ρ1 H1 g1)
  · cases h
theorem sim_one {op : BoolOp} {a : Expr} {i : E} {pos : Pos} (h1 : SimE Γ a i) : SimE Γ (.BoolOp op [a] pos) i := by
  intro n X G env st d st' ρ σ H Q h re rp q
  exact TW.of (pe_one pe_w) (h1 G h re rp q)
theorem sim_and {a b : Expr} {r : List Expr} {i j : E} {pos : Pos} (h1 : SimE Γ a i) (h2 : SimE Γ (.BoolOp .And (b :: r) pos) j) : SimE Γ (.BoolOp .And (a :: b :: r) pos) (.and i j) := by
  intro n X G env st d st' ρ σ H Q h re rp q
  simp only [ev] at h
  obtain ⟨x, s1, e1, h⟩ := Res.bind_eq_ok h
  refine TW.of (pe_andT pe_w pe_w) (h1 G e1 re rp fun v ρ1 H1 g1 r1 => ?_)
  unfold br at h
  split at h
  · rename_i hb
    refine ⟨true, tru_ok g1.rep r1 hb, ?_⟩
    simp only [if_true]
    exact h2 G h (re.move g1) g1.rep fun u ρ2 H2 g2 r2 => q u ρ2 H2 (g1.trans g2) r2
  · rename_i hb
    cases h
    refine ⟨false, tru_ok g1.rep r1 hb, ?_⟩
    exact q v ρ1 H1 g1 r1
  · cases h
theorem sim_or {a b : Expr} {r : List Expr} {i j : E} {pos : Pos} (h1 : SimE Γ a i) (h2 : SimE Γ (.BoolOp .Or (b :: r) pos) j) : SimE Γ (.BoolOp .Or (a :: b :: r) pos) (.or i j) := by
  intro n X G env st d st' ρ σ H Q h re rp q
  simp only [ev] at h
  obtain ⟨x, s1, e1, h⟩ := Res.bind_eq_ok h
  refine TW.of (pe_orT pe_w pe_w) (h1 G e1 re rp fun v ρ1 H1 g1 r1 => ?_)
  unfold br at h
  split at h
  · rename_i hb
    cases h
    refine ⟨true, tru_ok g1.rep r1 hb, ?_⟩
    simp only [if_true]
    exact q v ρ1 H1 g1 r1
  · rename_i hb
    refine ⟨false, tru_ok g1.rep r1 hb, ?_⟩
    exact h2 G h (re.move g1) g1.rep fun u ρ2 H2 g2 r2 => q u ρ2 H2 (g1.trans g2) r2
  · cases h
theorem pw_w {X : Cx} {op : BoolOp} {es : List Expr} {pos : Pos} : PW X (.BoolOp op es pos) (TWT X (.BoolOp op es pos)) := ⟨fun whole pins s σ H Q I h => h pins s I⟩
theorem test_one {op : BoolOp} {a : Expr} {i : E} {pos : Pos} (h1 : SimT Γ a i) : SimT Γ (.BoolOp op [a] pos) i := by
  intro n X G env st d k st' ρ σ H Q h ht re rp q
  cases op with
  | And => exact TWT.of (pw_and1 pt_w).pt (h1 G h ht re rp q)
  | Or => exact TWT.of (pw_or1 pt_w).pt (h1 G h ht re rp q)
theorem test_and {a b : Expr} {r : List Expr} {i j : E} {pos : Pos} (h1 : SimT Γ a i) (h2 : SimT Γ (.BoolOp .And (b :: r) pos) j) : SimT Γ (.BoolOp .And (a :: b :: r) pos) (.and i j) := by
  intro n X G env st d k st' ρ σ H Q h ht re rp q
  simp only [ev] at h
  obtain ⟨x, s1, e1, h⟩ := Res.bind_eq_ok h
  unfold br at h
  split at h
  · rename_i hb
    refine TWT.of (pw_and pt_w pw_w).pt (h1 G e1 hb re rp fun ρ1 H1 g1 => ?_)
    rw [if_pos rfl]
    exact h2 G h ht (re.move g1) g1.rep fun ρ2 H2 g2 => q ρ2 H2 (g1.trans g2)
  · rename_i hb
    cases h
    have e : k = false := Option.some.inj (ht.symm.trans hb)
    subst e
    refine TWT.of (pw_and pt_w pw_w).pt (h1 G e1 hb re rp fun ρ1 H1 g1 => ?_)
    rw [if_neg Bool.false_ne_true]
    exact q ρ1 H1 g1
  · cases h
theorem test_or {a b : Expr} {r : List Expr} {i j : E} {pos : Pos} (h1 : SimT Γ a i) (h2 : SimT Γ (.BoolOp .Or (b :: r) pos) j) : SimT Γ (.BoolOp .Or (a :: b :: r) pos) (.or i j) := by
  intro n X G env st d k st' ρ σ H Q h ht re rp q
  simp only [ev] at h
  obtain ⟨x, s1, e1, h⟩ := Res.bind_eq_ok h
  unfold br at h
  split at h
  · rename_i hb
    cases h
    have e : k = true := Option.some.inj (ht.symm.trans hb)
    subst e
    refine TWT.of (pw_or pt_w pw_w).pt (h1 G e1 hb re rp fun ρ1 H1 g1 => ?_)
    rw [if_pos rfl]
    exact q ρ1 H1 g1
  · rename_i hb
    refine TWT.of (pw_or pt_w pw_w).pt (h1 G e1 hb re rp fun ρ1 H1 g1 => ?_)
    rw [if_neg Bool.false_ne_true]
    exact h2 G h ht (re.move g1) g1.rep fun ρ2 H2 g2 => q ρ2 H2 (g1.trans g2)
  · cases h
theorem sim_ife {c a b : Expr} {k i j : E} {pos : Pos} (h0 : SimT Γ c k) (h1 : SimE Γ a i) (h2 : SimE Γ b j) : SimE Γ (.IfExp c a b pos) (.ife k i j) := by
  intro n X G env st d st' ρ σ H Q h re rp q
  simp only [ev] at h
  obtain ⟨x, s1, e1, h⟩ := Res.bind_eq_ok h
  unfold br at h
  split at h
  · rename_i hb
    refine TW.of (pe_ifExp pt_w pe_w pe_w) (h0 G e1 hb re rp fun ρ1 H1 g1 => ?_)
    rw [if_pos rfl]
    exact h1 G h (re.move g1) g1.rep fun u ρ2 H2 g2 r2 => q u ρ2 H2 (g1.trans g2) r2
  · rename_i hb
    refine TW.of (pe_ifExp pt_w pe_w pe_w) (h0 G e1 hb re rp fun ρ1 H1 g1 => ?_)
    rw [if_neg Bool.false_ne_true]
    exact h2 G h (re.move g1) g1.rep fun u ρ2 H2 g2 r2 => q u ρ2 H2 (g1.trans g2) r2
  · cases h

/-! ### subscripts -/
def nslice : Expr → Bool
  | .Slice _ _ _ _ => false
  | _ => true
theorem plain_ix {b : Expr} (h : nslice b = true) : PlainIx b := by
  intro o i
  cases b <;> first | rfl | cases h
theorem RVs.at {K : PySem.W.Frag} {ρ : Nat → Addr} {L : Nat} {H : Hp} {ds : List D} {vs : List V} {i : Int} {d : D} (r : RVs K ρ L H ds vs) (h : atI ds i = some d) : ∃ v, atI vs i = some v ∧ RV K ρ L H d v := by
  unfold atI at h ⊢
  rw [← r.length]
  cases q : ixN ds.length i with
  | none => rw [q] at h; cases h
  | some j => rw [q] at h; exact r.get h
theorem sim_ix {a b : Expr} {i j : E} {pos : Pos} (hb : nslice b = true) (h1 : SimE Γ a i) (h2 : SimE Γ b j) : SimE Γ (.Subscript a b pos) (.ix i j) := by
  intro n X G env st d st' ρ σ H Q h re rp q
  simp only [ev] at h
  obtain ⟨x, s1, e1, h⟩ := Res.bind_eq_ok h
  obtain ⟨y, s2, e2, h⟩ := Res.bind_eq_ok h
  refine TW.of (pe_ix ix_seq pe_w pe_w (plain_ix hb)) (h1 G e1 re rp fun v ρ1 H1 g1 r1 => h2 G e2 (re.move g1) g1.rep fun u ρ2 H2 g2 r2 => ?_)
  unfold ixD at h
  split at h
  · split at h
    · rename_i xs hs
      split at h
      · rename_i dd hd
        cases h
        cases r2
        obtain ⟨p, vs, rfl, h3, h4⟩ := seqOf_ok g2.rep hs (g2.rv r1)
        obtain ⟨w, h5, h6⟩ := h4.at hd
        have qq := q w ρ2 H2 (g1.trans g2) h6
        rcases h3 with h3 | h3
        · exact .inl ⟨p, vs, _, w, rfl, rfl, h3, h5, qq⟩
        · exact .inr (.inl ⟨p, vs, _, w, rfl, rfl, h3, h5, qq⟩)
      · cases h
    · cases h
  · cases h
end RP

namespace RP
open PySem L2
variable {Γ : Ctx}

/-! ### built-ins -/
def rC (X : Cx) (f : Value) : List V → Hp → VK → Prop := fun xs H Q => ∃ r, CallR X f r ∧ r xs H Q
theorem callC {X : Cx} {f : Value} : CallR X f (rC X f) := fun pins s σ H xs us Q I rv ⟨r, h, q⟩ => h pins s σ H xs us Q I rv q

theorem stars_no {es : List Expr} (h : es.all (fun e => !star e) = true) (pos : Pos) (env : PySem.Env) : (backTo pos (starEach es env)).any (·.1) = false := by
  induction es with
  | nil => rfl
  | cons e r ih =>
    simp only [List.all_cons, Bool.and_eq_true, Bool.not_eq_true'] at h
    rw [starEach_cons h.1]
    have q := ih h.2
    simp only [backTo] at q ⊢
    simpa using q

/-- repr -/
theorem call_reprD {X : Cx} (hg : X.A.guards = some []) (hu : X.A.units + 66 < cLine) : CallR X (.builtin "repr") (fun xs H Q => ∃ x p, xs = [x] ∧ Dp X.K H x p ∧ reprOk p = true ∧ p.canLay0 = true ∧ Q (.str p.shown) H) := by
  intro pins s σ H xs us Q I r h
  obtain ⟨x, p, rfl, hd, ok, lay, q⟩ := h
  unfold reprOk at ok
  simp only [Bool.and_eq_true, decide_eq_true_eq] at ok
  obtain ⟨⟨sh, dp⟩, sz⟩ := ok
  cases r with
  | cons r1 r2 =>
    cases r2
    have nd : p.hasDict = false := PyData.hasDict_of_canLay _ lay
    cases hd with
    | non => cases r1; exact PySem.P.repr_of_none ⟨.str _, H, I.tok _, ⟨_, rfl⟩, q⟩
    | bl b => cases r1; exact PySem.P.repr_of_bool ⟨.str _, H, I.tok _, ⟨_, rfl⟩, q⟩
    | int i =>
      obtain ⟨t, rfl⟩ := r1
      exact PySem.P.repr_of_int (of_decide_eq_true sh) ⟨.str _, H, I.tok _, ⟨_, rfl⟩, q⟩
    | str z =>
      obtain ⟨t, rfl⟩ := r1
      exact PySem.P.repr_of_str ⟨.str _, H, I.tok _, ⟨_, rfl⟩, q⟩ sz
    | lst h1 h2 =>
      obtain ⟨as, rr⟩ := Dp.reads I _ _ _ (.lst h1 h2) r1
      cases r1
      exact repr_of_reads' rr sh (PyData.noDict_hsm nd) hg (by omega) (fun _ _ e => e) (fun h' u tk hk => ⟨.str _, H, I.kept hk, ⟨_, rfl⟩, q⟩) sz
    | tup h1 h2 =>
      obtain ⟨as, rr⟩ := Dp.reads I _ _ _ (.tup h1 h2) r1
      cases r1
      exact repr_of_reads' rr sh (PyData.noDict_hsm nd) hg (by omega) (fun _ _ e => e) (fun h' u tk hk => ⟨.str _, H, I.kept hk, ⟨_, rfl⟩, q⟩) sz

def Bi.nm : Bi → Str
  | .len => "len" | .sum => "sum" | .abs => "abs" | .max => "max" | .min => "min" | .int => "int" | .tuple => "tuple" | .list => "list" | .repr => "repr" | .all => "all" | .any => "any" | .sorted => "sorted" | .str => "str" | .bool => "bool"
def Bi.val : Bi → Value
  | .len => .builtin "len" | .sum => .builtin "sum" | .abs => .builtin "abs" | .max => .builtin "max" | .min => .builtin "min" | .int => .type "int" | .tuple => .type "tuple" | .list => .type "list"
  | .repr => .builtin "repr" | .all => .builtin "all" | .any => .builtin "any" | .sorted => .builtin "sorted" | .str => .type "str" | .bool => .type "bool"
theorem Bi.boot : ∀ b : Bi, bootBuiltins b.nm = some b.val
  | .len => by decide +kernel
  | .sum => by decide +kernel
  | .abs => by decide +kernel
  | .max => by decide +kernel
  | .min => by decide +kernel
  | .int => by decide +kernel
  | .tuple => by decide +kernel
  | .list => by decide +kernel
  | .repr => by decide +kernel
  | .all => by decide +kernel
  | .any => by decide +kernel
  | .sorted => by decide +kernel
  | .str => by decide +kernel
  | .bool => by decide +kernel
theorem Bi.plain : ∀ b : Bi, (b.nm ≠ "__name__") ∧ (b.nm == ("__debug__" : Str)) = false := by
  intro b; cases b <;> decide +kernel

theorem intsOf_ok {K : PySem.W.Frag} {ρ : Nat → Addr} {L : Nat} {H : Hp} : ∀ {ds : List D} {vs : List V} {ns : List Int}, intsOf ds = some ns → RVs K ρ L H ds vs → vs = ns.map V.int
  | [], _, _, e, .nil => by cases e; rfl
  | d :: ds, _, ns, e, .cons h r => by
    cases h with
    | int i =>
      simp only [intsOf] at e
      obtain ⟨ms, e1, rfl⟩ := map_some e
      rw [intsOf_ok e1 r]; rfl
    | _ => simp [intsOf] at e

theorem bi_ok {X : Cx} {n : Nat} (G : Good Γ n X) {b : Bi} {ds : List D} {d : D} {st st' : Sto} {ρ : Nat → Addr} {H : Hp} {vs : List V} {Q : VK} (h : bi b ds st = .ok d st') (r : RVs X.K ρ st.length H ds vs) (rp : Rep X.K ρ H st)
    (q : ∀ v ρ' H', Go X.K ρ st H ρ' st' H' → RV X.K ρ' st'.length H' d v → Q v H') : rC X b.val vs H Q := by
  have hu : X.A.units + 66 < cLine := by have := G.room.un; omega
  have g0 := Go.refl rp
  unfold bi at h
  split at h
  · split at h
    · rename_i hz
      cases h
      cases r with | cons r1 r2 => cases r2; cases r1; exact ⟨_, call_len_str, _, rfl, hz, q _ _ _ g0 (.int _)⟩
    · cases h
  · cases h
    cases r with
    | cons r1 r2 =>
      cases r2
      cases r1 with
      | tup h1 h2 => exact ⟨_, call_len_seq, _, _, rfl, .inr h1, by rw [← h2.length]; exact q _ _ _ g0 (.int _)⟩
  · split at h
    · rename_i o ho
      cases h
      obtain ⟨ws, h1, h2⟩ := rp.seq ho
      cases r with
      | cons r1 r2 =>
        cases r2
        cases r1
        exact ⟨_, call_len_seq, _, _, rfl, .inl h1, by rw [← h2.length]; exact q _ _ _ g0 (.int _)⟩
    · cases h
  · split at h
    · rename_i o ho
      split at h
      · rename_i ns hn
        cases h
        obtain ⟨ws, h1, h2⟩ := rp.seq ho
        have e := intsOf_ok hn h2
        subst e
        cases r with
        | cons r1 r2 =>
          cases r2
          cases r1
          exact ⟨_, cr_sum G.calm, _, ns, rfl, h1, q _ _ _ g0 (.int _)⟩
      · cases h
    · cases h
  · cases h
    cases r with | cons r1 r2 => cases r2; cases r1; exact ⟨_, call_abs, _, rfl, q _ _ _ g0 (.int _)⟩
  · cases h
    cases r with | cons r1 r2 => cases r2 with | cons r3 r4 => cases r4; cases r1; cases r3; exact ⟨_, call_max2 G.calm, _, _, rfl, q _ _ _ g0 (.int _)⟩
  · cases h
    cases r with | cons r1 r2 => cases r2 with | cons r3 r4 => cases r4; cases r1; cases r3; exact ⟨_, call_min2 G.calm, _, _, rfl, q _ _ _ g0 (.int _)⟩
  · cases h
    cases r with | cons r1 r2 => cases r2; cases r1; exact ⟨_, call_int1, .inl ⟨_, rfl, q _ _ _ g0 (.int _)⟩⟩
  · cases h
    cases r with | cons r1 r2 => cases r2; cases r1; exact ⟨_, call_int1, .inr ⟨_, rfl, q _ _ _ g0 (.int _)⟩⟩
  · cases h
    cases r with
    | cons r1 r2 =>
      cases r2
      cases r1 with
      | tup h1 h2 => exact ⟨_, call_tuple_of, _, _, rfl, .inr ⟨h1, q _ _ _ g0 (.tup h1 h2)⟩⟩
  · split at h
    · rename_i o ho
      cases h
      obtain ⟨ws, h1, h2⟩ := rp.seq ho
      cases r with
      | cons r1 r2 =>
        cases r2
        cases r1
        refine ⟨_, call_tuple_of, _, _, rfl, .inl ⟨h1, fun p hp => ?_⟩⟩
        exact q _ _ _ (Go.fresh rp hp) (.tup (SqT.of upd_same) ((Go.fresh rp hp).rvs h2))
    · cases h
  · split at h
    · rename_i xs hs
      cases h
      cases r with
      | cons r1 r2 =>
        cases r2
        obtain ⟨p, ws, rfl, h1, h2⟩ := seqOf_ok rp hs r1
        exact ⟨_, call_list_of, _, _, rfl, h1, fun l hl => q _ _ _ (Go.newL rp hl h2) RV.last⟩
    · cases h
  · unfold reprD at h
    split at h
    · rename_i p hp
      split at h
      · rename_i c
        cases h
        simp only [Bool.and_eq_true] at c
        cases r with
        | cons r1 r2 =>
          cases r2
          exact ⟨_, call_reprD G.guards hu, _, p, rfl, toPy_ok rp hp r1, c.1, c.2, q _ _ _ g0 (.str _)⟩
      · cases h
    · cases h
  · cases h
theorem glob_of {X : Cx} {n : Nat} (G : Good Γ n X) {x : Str} (hs : Γ.sc.names.lookup x = some .globalImplicit) : Gl X x := by
  show X.env.scope.names.lookup x = _
  rw [G.sc]; exact hs
theorem sim_bi {e : Expr} {es : List Expr} {b : Bi} {is : Es} {p pos : Pos} (hs : Γ.sc.names.lookup b.nm = some .globalImplicit) (hb : b.nm ∈ Γ.bs) (hn : (e :: es).all (fun e => !star e) = true) (h1 : SimA Γ (e :: es) is) :
    SimE Γ (.Call (.Name b.nm p) (e :: es) [] pos) (.bi b is) := by
  intro n X G env st d st' ρ σ H Q h re rp q
  simp only [ev] at h
  obtain ⟨xs, s1, e1, h⟩ := Res.bind_eq_ok h
  have hn' := hn
  simp only [List.all_cons, Bool.and_eq_true, Bool.not_eq_true'] at hn
  have key : ∀ t : TE, PE X (.Call (.Name b.nm p) (e :: es) [] pos) (tCB (rC X b.val) (TWA X (e :: es))) := fun _ => by
    cases hv : b.val with
    | builtin id => exact pe_callB callC (glob_of G hs) (G.blt _ hb) (by rw [b.boot, hv]) pa_w b.plain.1 b.plain.2 (starEach_cons hn.1 _ _) (stars_no hn.2 _ _)
    | type T => exact pe_callTy callC (glob_of G hs) (G.blt _ hb) (by rw [b.boot, hv]) pa_w b.plain.1 b.plain.2 (starEach_cons hn.1 _ _) (stars_no hn.2 _ _)
    | _ => cases b <;> cases hv
  refine TW.of (key (tC .non)) (h1 G e1 re rp fun vs ρ1 H1 g1 r1 => ?_)
  exact bi_ok G h r1 g1.rep fun v ρ2 H2 g2 r2 => q v ρ2 H2 (g1.trans g2) r2

/-! ### isinstance -/
def Ty.nm : Ty → Str
  | .int => "int" | .bool => "bool" | .tuple => "tuple" | .str => "str" | .list => "list" | .dict => "dict"
def Ty.tn : Ty → String
  | .int => "int" | .bool => "bool" | .tuple => "tuple" | .str => "str" | .list => "list" | .dict => "dict"
theorem Ty.boot : ∀ b : Ty, bootBuiltins b.nm = some (.type b.tn)
  | .int => by decide +kernel
  | .bool => by decide +kernel
  | .tuple => by decide +kernel
  | .str => by decide +kernel
  | .list => by decide +kernel
  | .dict => by decide +kernel
theorem Ty.plain : ∀ b : Ty, (b.nm ≠ "__name__") ∧ (b.nm == ("__debug__" : Str)) = false := by
  intro b; cases b <;> decide +kernel
theorem ty_tuple {K : PySem.W.Frag} {H : Hp} {a : Addr} {vs : List V} (h : SqT K H a vs) : TyX K H (.ref a) (.type "tuple") := by
  rcases h with (h | ⟨o, h⟩) | ⟨o, _, _, h, c, _⟩
  · exact .base (.tup h)
  · exact .fTuple h
  · exact .kTuple h c
theorem ty_list {K : PySem.W.Frag} {H : Hp} {a : Addr} {vs : List V} (h : SqL K H a vs) : TyX K H (.ref a) (.type "list") := by
  rcases h with (h | ⟨o, h⟩) | ⟨o, _, _, h, c, _⟩
  · exact .base (.lst h)
  · exact .base (.frz h)
  · exact .kList h c
theorem kit_non (t : Ty) : kitB "NoneType" t.tn = some false := by cases t <;> decide +kernel
theorem kit_bool (t : Ty) : kitB "bool" t.tn = some (decide (t = .bool) || decide (t = .int)) := by cases t <;> decide +kernel
theorem kit_int (t : Ty) : kitB "int" t.tn = some (decide (t = .int)) := by cases t <;> decide +kernel
theorem kit_str (t : Ty) : kitB "str" t.tn = some (decide (t = .str)) := by cases t <;> decide +kernel
theorem kit_tuple (t : Ty) : kitB "tuple" t.tn = some (decide (t = .tuple)) := by cases t <;> decide +kernel
theorem kit_list (t : Ty) : kitB "list" t.tn = some (decide (t = .list)) := by cases t <;> decide +kernel
theorem isi_ok {K : PySem.W.Frag} {ρ : Nat → Addr} {H : Hp} {st st' : Sto} {t : Ty} {x d : D} {v : V} (rp : Rep K ρ H st) (h : isiD t x st = .ok d st') (r : RV K ρ st.length H x v) :
    ∃ (ty : String) (b : Bool), TyX K H v (.type ty) ∧ kitB ty t.tn = some b ∧ d = .bl b ∧ st' = st := by
  cases r with
  | non =>
    obtain ⟨b, e, rfl, rfl⟩ := ofB_ok (show ofB (tyIs t .non st) st = _ from h)
    refine ⟨_, _, .base .non, kit_non t, ?_, rfl⟩
    cases t <;> cases e <;> rfl
  | bl k =>
    obtain ⟨b, e, rfl, rfl⟩ := ofB_ok (show ofB (tyIs t (.bl k) st) st = _ from h)
    refine ⟨_, _, .base (.bl k), kit_bool t, ?_, rfl⟩
    cases t <;> cases e <;> rfl
  | int k =>
    obtain ⟨b, e, rfl, rfl⟩ := ofB_ok (show ofB (tyIs t (.int k) st) st = _ from h)
    refine ⟨_, _, .base (.int k), kit_int t, ?_, rfl⟩
    cases t <;> cases e <;> rfl
  | str k =>
    obtain ⟨b, e, rfl, rfl⟩ := ofB_ok (show ofB (tyIs t (.str k) st) st = _ from h)
    refine ⟨_, _, .base (.str k), kit_str t, ?_, rfl⟩
    cases t <;> cases e <;> rfl
  | tup h1 h2 =>
    obtain ⟨b, e, rfl, rfl⟩ := ofB_ok (show ofB (tyIs t (.tup _) st) st = _ from h)
    refine ⟨_, _, ty_tuple h1, kit_tuple t, ?_, rfl⟩
    cases t <;> cases e <;> rfl
  | ref hn =>
    rename_i m
    have h' : (if m < st.length then ofB (tyIs t (.ref m) st) st else .bad) = Res.ok d st' := h
    rw [if_pos hn] at h'
    obtain ⟨b, e, rfl, rfl⟩ := ofB_ok h'
    cases q : st'[m]? with
    | none => rw [List.getElem?_eq_none_iff] at q; omega
    | some o =>
      obtain ⟨vs, h1, h2⟩ := rp.seq q
      refine ⟨_, _, ty_list h1, kit_list t, ?_, rfl⟩
      cases t <;> simp only [tyIs, q] at e <;> cases e <;> rfl
theorem sim_isi {a : Expr} {i : E} {t : Ty} {p p2 pos : Pos} (ha : star a = false) (hs : Γ.sc.names.lookup ("isinstance" : Str) = some .globalImplicit) (hb : ("isinstance" : Str) ∈ Γ.bs)
    (hs2 : Γ.sc.names.lookup t.nm = some .globalImplicit) (hb2 : t.nm ∈ Γ.bs) (h1 : SimE Γ a i) : SimE Γ (.Call (.Name "isinstance" p) [a, .Name t.nm p2] [] pos) (.isi i t) := by
  intro n X G env st d st' ρ σ H Q h re rp q
  simp only [ev] at h
  obtain ⟨x, s1, e1, h⟩ := Res.bind_eq_ok h
  have pt : PE X (.Name t.nm p2) (tC (.ty t.tn)) := pe_bltn (glob_of G hs2) (G.blt _ hb2) t.boot rfl t.plain.1 t.plain.2
  refine TW.of (pe_callB call_isi (glob_of G hs) (G.blt _ hb) (by decide +kernel) (pa_cons pe_w (pa_cons pt pa_nil rfl) (starEach_cons ha _ _)) (by decide) (by decide) (starEach_cons ha _ _) rfl) (h1 G e1 re rp fun v ρ1 H1 g1 r1 => ?_)
  obtain ⟨ty, b, t1, t2, rfl, rfl⟩ := isi_ok g1.rep h r1
  exact ⟨v, .ty t.tn, .type ty, .type t.tn, b, rfl, .ty _, t1, kit_ty t2, q _ ρ1 H1 g1 (.bl b)⟩

/-! ### calls of defs -/
theorem run_FG {X : Cx} {n : Nat} (G : Good Γ n X) {a : Addr} {fd : FuncData} {ps : List Str} {run : List D → Sto → Res D} (F : FG X.prog X.w X.K X.mg X.base n a fd ps run) (hb : Binds X.K fd ps []) {pins : List (Addr × Obj)} {σ : St} {H : Hp} {s : Shared} {us : List Value} {vs : List V} {ds : List D} {st st' : Sto} {d : D} {ρ : Nat → Addr} {Q : VK}
    (hl : vs.length = ps.length) (I : Inv X pins σ H s) (r : Vals vs us) (rv : RVs X.K ρ st.length H ds vs) (rp : Rep X.K ρ H st) (h : run ds st = .ok d st') (q : ∀ v ρ' H', Go X.K ρ st H ρ' st' H' → RV X.K ρ' st'.length H' d v → Q v H') :
    wpAny (model X.prog X.w) X.A (PySem.call (.ref a) us) (EP X pins σ Q) X.xe s := by
  have hlu : (us ++ ([] : List Value)).length = ps.length := by rw [List.append_nil, ← r.length]; exact hl
  have bb := hb s us I.kIn hlu
  rw [List.append_nil] at bb
  refine wpAny_call (codeAny_mono (F X.A X.stack s H ⟨us, []⟩ us vs ds st ρ Q d st' G.room G.guards I.env0 bb r hl rv rp h q) fun r s' hq => ?_)
  obtain ⟨u, rfl, hc⟩ := hq
  exact I.after hc
theorem sim_call {x : Str} {ps : List Str} {k : Nat} {e : Expr} {es : List Expr} {is : Es} {p pos : Pos} (hk : Γ.fns[k]? = some (x, ps)) (hs : Γ.sc.names.lookup x = some .globalImplicit) (hd : (x == ("__debug__" : Str)) = false) (hlen : (e :: es).length = ps.length)
    (hn : (e :: es).all (fun e => !star e) = true) (h1 : SimA Γ (e :: es) is) (hsz : ∀ {m cf gl env st ds st'}, evs gl cf is env st = .ok ds st' → m = (e :: es).length → ds.length = m) : SimE Γ (.Call (.Name x p) (e :: es) [] pos) (.call k is) := by
  intro n X G env st d st' ρ σ H Q h re rp q
  simp only [ev] at h
  obtain ⟨xs, s1, e1, h⟩ := Res.bind_eq_ok h
  simp only [List.all_cons, Bool.and_eq_true, Bool.not_eq_true'] at hn
  obtain ⟨a, fd, m1, m2, m3, F⟩ := G.fns k x ps hk
  intro pins s I
  refine wpAny_Call_Name_kw (ld_glob I (glob_of G hs) m1 ?_ hd)
  refine PySem.W.callWith_K (h₀ := X.base) I.ok.mod.kin m2 (thn (h1 (Q := fun vs H1 => ∃ ρ1, Go X.K ρ st H ρ1 s1 H1 ∧ RVs X.K ρ1 s1.length H1 xs vs) G e1 re rp (fun vs ρ1 H1 g1 r1 => ⟨ρ1, g1, r1⟩) pos pins s I) fun us s2 ⟨vs, H1, I1, r, ρ1, g1, r1⟩ => ⟨I1.kIn, ?_⟩) (starEach_cons hn.1 _ _) (stars_no hn.2 _ _)
  refine run_FG G F m3 ?_ I1 r r1 g1.rep h fun v ρ2 H2 g2 r2 => q v ρ2 H2 (g1.trans g2) r2
  rw [← r1.length, hsz e1 rfl]; exact hlen

/-! ### methods of lists -/
def attrB : Expr → Bool
  | .Call (.Name _ _) [] [] _ => false
  | _ => true
theorem base_of {o : Expr} (h : attrB o = true) (attr : Str) (env : PySem.Env) (whole : Sem Value) : attributeBase o attr env whole = whole := by
  unfold attributeBase
  cases o with
  | Call f as ks pos =>
    cases f with
    | Name x p =>
      cases as with
      | nil =>
        cases ks with
        | nil => cases h
        | cons _ _ => rfl
      | cons _ _ => rfl
    | _ => rfl
  | _ => rfl
theorem setL_ok {n : Nat} {f : List D → Option (List D)} {st st' : Sto} (h : setL n f st = some st') : ∃ xs ys, st[n]? = some (.lst xs) ∧ f xs = some ys ∧ ys.length ≤ sizeLine ∧ st' = st.set n (.lst ys) := by
  unfold setL at h
  split at h
  · rename_i xs e
    split at h
    · rename_i ys e2
      split at h
      · rename_i c
        cases h
        exact ⟨xs, ys, e, e2, c, rfl⟩
      · cases h
    · cases h
  · cases h
theorem few1 {e : Expr} (h : star e = false) (cpos : Pos) (env : PySem.Env) : ((backTo cpos (starEach [e] env)).all (fun x => !x.1) && (backToKw cpos (keywordEach [] env)).all (fun x => x.1.isSome)
      && decide (([e] : List Expr).length + ([] : List Keyword).length + (if ([] : List Keyword).isEmpty then 0 else 1) < 30)) = true := by
  rw [starEach_cons h]; rfl
theorem mt_append_inv {x : D} {ys : List D} {st st' : Sto} {d : D} (h : mt .append x ys st = .ok d st') : ∃ n y, x = .ref n ∧ ys = [y] ∧ setL n (fun xs => some (xs ++ [y])) st = some st' ∧ d = .non := by
  cases x with
  | ref n =>
    cases ys with
    | nil => simp [mt] at h
    | cons y r =>
      cases r with
      | nil =>
        simp only [mt] at h
        split at h
        · rename_i s2 e
          cases h
          exact ⟨n, y, rfl, rfl, e, rfl⟩
        · cases h
      | cons _ _ => simp [mt] at h
  | _ => simp [mt] at h
theorem mt_extend_inv {x : D} {ys : List D} {st st' : Sto} {d : D} (h : mt .extend x ys st = .ok d st') : ∃ n m zs, x = .ref n ∧ ys = [.ref m] ∧ st[m]? = some (.lst zs) ∧ setL n (fun xs => some (xs ++ zs)) st = some st' ∧ d = .non := by
  cases x with
  | ref n =>
    cases ys with
    | nil => simp [mt] at h
    | cons y r =>
      cases r with
      | nil =>
        cases y with
        | ref m =>
          simp only [mt] at h
          split at h
          · rename_i zs e0
            split at h
            · rename_i s2 e
              cases h
              exact ⟨n, m, zs, rfl, rfl, e0, e, rfl⟩
            · cases h
          · cases h
        | _ => simp [mt] at h
      | cons _ _ => simp [mt] at h
  | _ => simp [mt] at h
theorem Rep.some_of {K : PySem.W.Frag} {ρ : Nat → Addr} {H : Hp} {st : Sto} (rp : Rep K ρ H st) {m : Nat} (h : m < st.length) : ∃ vs, SqL K H (ρ m) vs := by
  cases qo : st[m]? with
  | none => rw [List.getElem?_eq_none_iff] at qo; omega
  | some oo =>
    obtain ⟨vv, sq, _⟩ := rp.seq qo
    exact ⟨vv, sq⟩
theorem sim_append {o e : Expr} {i j : E} {apos cpos : Pos} (ho : attrB o = true) (hl : (apos.endLine == cpos.line) = true) (he : star e = false) (h1 : SimE Γ o i) (h2 : SimE Γ e j) :
    SimE Γ (.Call (.Attribute o "append" apos) [e] [] cpos) (.mt .append i (.cons j .nil)) := by
  intro n X G env st d st' ρ σ H Q h re rp q
  simp only [ev, evs] at h
  obtain ⟨x, s1, e1, h⟩ := Res.bind_eq_ok h
  obtain ⟨ys, s2, e2, h⟩ := Res.bind_eq_ok h
  obtain ⟨y, s3, e3, e2⟩ := Res.bind_eq_ok e2
  cases e2
  obtain ⟨m, y', rfl, ey, e5, rfl⟩ := mt_append_inv h
  cases ey
  obtain ⟨xs, zs, f1, f2, f3, rfl⟩ := setL_ok e5
  cases f2
  refine TW.of (pe_bm PySem.F.plainAttrs_list PySem.F.slot_list_append PySem.F.type_list_append mt_append pe_w (pa_cons pe_w pa_nil (starEach_cons he _ _)) (base_of ho _ _ _) (few1 he _ _) hl (starEach_cons he _ _) rfl) (h1 G e1 re rp fun v ρ1 H1 g1 r1 => ?_)
  cases r1 with
  | ref hn =>
    refine ⟨.inl ⟨rfl, g1.rep.some_of hn⟩, h2 G e3 (re.move g1) g1.rep fun u ρ2 H2 g2 r2 => ?_⟩
    obtain ⟨vs, k1, k2⟩ := g2.rep.lst m xs f1
    have gs := Go.setL g2.rep f1 k1 (k2.app (.cons r2 .nil))
    rw [g2.rho m hn] at k1 gs
    refine ⟨_, vs, u, rfl, rfl, k1, by rw [← k2.length]; simp at f3; omega, ?_⟩
    exact q _ ρ2 _ ((g1.trans g2).trans gs) .non
theorem sim_extend {o e : Expr} {i j : E} {apos cpos : Pos} (ho : attrB o = true) (hl : (apos.endLine == cpos.line) = true) (he : star e = false) (h1 : SimE Γ o i) (h2 : SimE Γ e j) :
    SimE Γ (.Call (.Attribute o "extend" apos) [e] [] cpos) (.mt .extend i (.cons j .nil)) := by
  intro n X G env st d st' ρ σ H Q h re rp q
  simp only [ev, evs] at h
  obtain ⟨x, s1, e1, h⟩ := Res.bind_eq_ok h
  obtain ⟨ys, s2, e2, h⟩ := Res.bind_eq_ok h
  obtain ⟨y, s3, e3, e2⟩ := Res.bind_eq_ok e2
  cases e2
  obtain ⟨m, k, zs, rfl, ey, e4, e5, rfl⟩ := mt_extend_inv h
  cases ey
  obtain ⟨xs, ws, f1, f2, f3, rfl⟩ := setL_ok e5
  cases f2
  refine TW.of (pe_bm PySem.F.plainAttrs_list PySem.F.slot_list_extend PySem.F.type_list_extend mt_extend pe_w (pa_cons pe_w pa_nil (starEach_cons he _ _)) (base_of ho _ _ _) (few1 he _ _) hl (starEach_cons he _ _) rfl) (h1 G e1 re rp fun v ρ1 H1 g1 r1 => ?_)
  cases r1 with
  | ref hn =>
    refine ⟨.inl ⟨rfl, g1.rep.some_of hn⟩, h2 G e3 (re.move g1) g1.rep fun u ρ2 H2 g2 r2 => ?_⟩
    obtain ⟨vs, k1, k2⟩ := g2.rep.lst m xs f1
    obtain ⟨us, j1, j2⟩ := g2.rep.lst k zs e4
    have gs := Go.setL g2.rep f1 k1 (k2.app j2)
    rw [g2.rho m hn] at k1 gs
    cases r2 with
    | ref hk =>
      refine ⟨_, _, vs, us, rfl, rfl, k1, j1, by rw [← k2.length, ← j2.length]; simpa using f3, ?_⟩
      exact q _ ρ2 _ ((g1.trans g2).trans gs) .non
end RP

namespace RP
open PySem L2
variable {Γ : Ctx}

/-! ### slices -/
theorem RVs.dropN {K : PySem.W.Frag} {ρ : Nat → Addr} {L : Nat} {H : Hp} : ∀ {ds : List D} {vs : List V} (n : Nat), RVs K ρ L H ds vs → RVs K ρ L H (ds.drop n) (vs.drop n)
  | _, _, 0, r => r
  | _, _, _ + 1, .nil => .nil
  | _, _, n + 1, .cons _ r => RVs.dropN n r
theorem RVs.takeN {K : PySem.W.Frag} {ρ : Nat → Addr} {L : Nat} {H : Hp} : ∀ {ds : List D} {vs : List V} (n : Nat), RVs K ρ L H ds vs → RVs K ρ L H (ds.take n) (vs.take n)
  | _, _, 0, _ => .nil
  | _, _, _ + 1, .nil => .nil
  | _, _, n + 1, .cons h r => .cons h (RVs.takeN n r)
theorem RVs.rev {K : PySem.W.Frag} {ρ : Nat → Addr} {L : Nat} {H : Hp} : ∀ {ds : List D} {vs : List V}, RVs K ρ L H ds vs → RVs K ρ L H ds.reverse vs.reverse
  | _, _, .nil => .nil
  | _, _, .cons h r => by rw [List.reverse_cons, List.reverse_cons]; exact (RVs.rev r).app (.cons h .nil)
theorem RVs.cut {K : PySem.W.Frag} {ρ : Nat → Addr} {L : Nat} {H : Hp} {ds : List D} {vs : List V} (r : RVs K ρ L H ds vs) (lo hi : Option Int) : RVs K ρ L H (cutD ds lo hi) (cutV vs lo hi) := by
  unfold cutD cutV
  rw [r.length]
  exact (r.dropN _).takeN _
theorem cut_whole {xs : List D} {lo hi : Option Int} (h1 : HT.sIx xs.length 0 lo = 0) (h2 : HT.sIx xs.length xs.length hi = xs.length) : cutD xs lo hi = xs := by
  unfold cutD
  rw [h1, h2]
  simp
/-- a slice's part -/
def SimO (Γ : Ctx) (o : Option Expr) (i : E) : Prop := (o = none ∧ i = .k .non) ∨ ∃ e, o = some e ∧ SimE Γ e i
def TWO (X : Cx) (o : Option Expr) : TO := fun σ H Q => ∀ pins s, Inv X pins σ H s → wpAny (model X.prog X.w) X.A (evalPart o X.env) (fun u s' => ∃ o H', Inv X pins σ H' s' ∧ IsPart u o ∧ Q o H') X.xe s
theorem po_w {X : Cx} {o : Option Expr} : PO X o (TWO X o) := ⟨fun pins s σ H Q I h => h pins s I⟩
theorem sim_part {o : Option Expr} {i : E} (h1 : SimO Γ o i) {n : Nat} {X : Cx} (G : Good Γ n X) {env : Env} {st : Sto} {d : D} {st' : Sto} {ρ : Nat → Addr} {σ : St} {H : Hp} {Q : Option Int → Hp → Prop} {p : Option Int}
    (h : ev Γ.gl (Γ.run n) i env st = .ok d st') (hp : partD d = some p) (hn : o ≠ none → d ≠ .non) (re : REnv X.K ρ st.length H env σ) (rp : Rep X.K ρ H st) (q : ∀ ρ' H', Go X.K ρ st H ρ' st' H' → Q p H') : TWO X o σ H Q := by
  rcases h1 with ⟨rfl, rfl⟩ | ⟨e, rfl, h1⟩
  · have h' : Res.ok D.non st = Res.ok d st' := by simpa [ev] using h
    cases h'
    cases hp
    exact fun pins s I => po_none.run pins s σ H _ I (q ρ H (Go.refl rp))
  · refine fun pins s I => (po_some pe_w).run pins s σ H _ I (h1 G h re rp fun v ρ1 H1 g1 r1 => ?_)
    cases r1 with
    | int i => cases hp; exact ⟨i, rfl, q ρ1 H1 g1⟩
    | non => exact absurd rfl (hn (by simp))
    | _ => cases hp
theorem sim_slice {a : Expr} {lo hi : Option Expr} {i j k : E} {p2 pos : Pos} (h1 : SimE Γ a i) (h2 : SimO Γ lo j) (h3 : SimO Γ hi k) (hl : ∀ {gl cf env st d st'}, ev gl cf j env st = .ok d st' → lo ≠ none → d ≠ .non)
    (hh : ∀ {gl cf env st d st'}, ev gl cf k env st = .ok d st' → hi ≠ none → d ≠ .non) : SimE Γ (.Subscript a (.Slice lo hi none p2) pos) (.sl i j k) := by
  intro n X G env st d st' ρ σ H Q h re rp q
  simp only [ev] at h
  obtain ⟨x, s1, e1, h⟩ := Res.bind_eq_ok h
  obtain ⟨l, s2, e2, h⟩ := Res.bind_eq_ok h
  obtain ⟨u, s3, e3, h⟩ := Res.bind_eq_ok h
  unfold slD at h
  split at h
  · rename_i plo phi q1 q2
    refine TW.of (pe_slice (sl_tupA.or sl_list) pe_w po_w po_w) (h1 G e1 re rp fun v ρ1 H1 g1 r1 => sim_part h2 G e2 q1 (hl e2) (re.move g1) g1.rep fun ρ2 H2 g2 => sim_part h3 G e3 q2 (hh e3) (re.move (g1.trans g2)) g2.rep fun ρ3 H3 g3 => ?_)
    have gg := (g1.trans g2).trans g3
    have r3 := g3.rv (g2.rv r1)
    split at h
    · cases h
      cases r3 with
      | tup t1 t2 =>
        rename_i xs aa vs
        refine .inl ⟨_, _, rfl, t1, fun z => ?_, fun z p hp => ?_⟩
        · refine q _ ρ3 H3 gg ?_
          rw [← t2.length] at z
          rw [cut_whole z.1 z.2]
          exact .tup t1 t2
        · have gf := Go.fresh (o := .tup (cutV vs plo phi)) g3.rep hp
          exact q _ ρ3 _ (gg.trans gf) (.tup (SqT.of upd_same) (gf.rvs (t2.cut plo phi)))
    · split at h
      · rename_i m o ho
        cases h
        obtain ⟨vs, k1, k2⟩ := g3.rep.seq ho
        cases r3
        exact .inr ⟨_, vs, rfl, k1, fun p hp => q _ _ _ (gg.trans (Go.newL g3.rep hp (k2.cut plo phi))) RV.last⟩
      · cases h
    · cases h
  · cases h
theorem sim_rev {a : Expr} {i : E} {k : Nat} {p1 p2 p3 pos : Pos} (h1 : SimE Γ a i) : SimE Γ (.Subscript a (.Slice none none (some (.UnaryOp .USub (.Constant (.int 1) k p1) p2)) p3) pos) (.rev i) := by
  intro n X G env st d st' ρ σ H Q h re rp q
  simp only [ev] at h
  obtain ⟨x, s1, e1, h⟩ := Res.bind_eq_ok h
  unfold revD at h
  split at h
  · split at h
    · rename_i m o ho
      cases h
      refine TW.of (pe_revL pe_w) (h1 G e1 re rp fun v ρ1 H1 g1 r1 => ?_)
      cases r1
      obtain ⟨vs, k1, k2⟩ := g1.rep.seq ho
      exact ⟨_, vs, rfl, k1, fun p hp => q _ _ _ (g1.trans (Go.newL g1.rep hp k2.rev)) RV.last⟩
    · cases h
  · cases h
end RP

namespace RP
open PySem L2
variable {Γ : Ctx}

/-! ### what is walked -/
def TWI (X : Cx) (tg iter : Expr) : TI := fun σ H R => ∀ pins s, Inv X pins σ H s → wpAny (model X.prog X.w) X.A (eval iter X.env) (fun v s1 => wpAny (model X.prog X.w) X.A (pyIter v) (PIE X pins σ tg R) X.xe s1) X.xe s
theorem pi_w {X : Cx} {tg iter : Expr} : PI X tg iter (TWI X tg iter) := ⟨fun pins s σ H R I h => h pins s I⟩
theorem TWI.of {X : Cx} {tg iter : Expr} {t : TI} {σ : St} {H : Hp} {R : L2.It → Hp → Prop} (h : PI X tg iter t) (q : t σ H R) : TWI X tg iter σ H R := fun pins s I => h.run pins s σ H R I q

structure Walk (K : PySem.W.Frag) (J : L2.It) (src : Option (Nat × List D)) (items : List D) (ρ : Nat → Addr) (st : Sto) (H : Hp) : Prop where
  item : ∀ (i : Nat) (ρ2 : Nat → Addr) (st2 : Sto) (H2 : Hp) (d : D), Go K ρ st H ρ2 st2 H2 → still src st2 = true → items[i]? = some d →
    J.go i H2 ∧ ∀ x H3, J.yld i H2 x H3 → Go K ρ2 st2 H2 ρ2 st2 H3 ∧ RV K ρ2 st2.length H3 d x ∧ ∀ a o, H2 a = some o → H3 a = some o
  stop : ∀ (i : Nat) (ρ2 : Nat → Addr) (st2 : Sto) (H2 : Hp), Go K ρ st H ρ2 st2 H2 → still src st2 = true → items.length ≤ i → J.stop i H2

theorem walk_list {K : PySem.W.Frag} {n : Nat} {xs : List D} {ρ : Nat → Addr} {st : Sto} {H : Hp} (hn : n < st.length) : Walk K (Itl K (ρ n)) (some (n, xs)) xs ρ st H := by
  have key : ∀ (ρ2 : Nat → Addr) (st2 : Sto) (H2 : Hp), Go K ρ st H ρ2 st2 H2 → still (some (n, xs)) st2 = true → ∃ vs, SqL K H2 (ρ n) vs ∧ RVs K ρ2 st2.length H2 xs vs := fun ρ2 st2 H2 g e => by
    simp only [still] at e
    cases q : st2[n]? with
    | none => rw [q] at e; cases e
    | some o =>
      rw [q] at e
      have e' : o.items = xs := (sames_iff _ _).mp e
      obtain ⟨vs, h1, h2⟩ := g.rep.seq q
      rw [g.rho n hn] at h1
      exact ⟨vs, h1, e' ▸ h2⟩
  refine ⟨fun i ρ2 st2 H2 d g e hi => ?_, fun i ρ2 st2 H2 g e hi => ?_⟩
  · obtain ⟨vs, h1, h2⟩ := key ρ2 st2 H2 g e
    obtain ⟨v, h3, h4⟩ := h2.get hi
    refine ⟨⟨vs, v, h1, h3⟩, fun x H3 ⟨eH, y⟩ => ?_⟩
    subst eH
    have ex : x = v := Option.some.inj ((y vs h1).symm.trans h3)
    subst ex
    exact ⟨Go.refl g.rep, h4, fun _ _ q => q⟩
  · obtain ⟨vs, h1, h2⟩ := key ρ2 st2 H2 g e
    exact ⟨vs, h1, by rw [← h2.length]; exact hi⟩
theorem walk_tup {K : PySem.W.Frag} {a : Addr} {xs : List D} {vs : List V} {ρ : Nat → Addr} {st : Sto} {H : Hp} (h : SqT K H a vs) (r : RVs K ρ st.length H xs vs) : Walk K (Itt K a) none xs ρ st H := by
  refine ⟨fun i ρ2 st2 H2 d g e hi => ?_, fun i ρ2 st2 H2 g e hi => ?_⟩
  · obtain ⟨v, h3, h4⟩ := (g.rvs r).get hi
    refine ⟨⟨vs, v, g.t _ _ h, h3⟩, fun x H3 ⟨eH, y⟩ => ?_⟩
    subst eH
    have ex : x = v := Option.some.inj ((y vs (g.t _ _ h)).symm.trans h3)
    subst ex
    exact ⟨Go.refl g.rep, h4, fun _ _ q => q⟩
  · exact ⟨vs, g.t _ _ h, by rw [← r.length]; exact hi⟩
theorem numb_get {lo : Int} : ∀ {n i : Nat} {lo : Int} {d : D}, (numb lo n)[i]? = some d → i < n ∧ d = .int (lo + i)
  | 0, _, _, _, h => by simp [numb] at h
  | n + 1, 0, lo, d, h => by simp [numb] at h; subst h; simp
  | n + 1, i + 1, lo, d, h => by
    simp only [numb, List.getElem?_cons_succ] at h
    obtain ⟨h1, h2⟩ := numb_get (lo := lo) h
    refine ⟨by omega, ?_⟩
    rw [h2]; congr 1; push_cast; omega
theorem numb_len : ∀ (n : Nat) (lo : Int), (numb lo n).length = n
  | 0, _ => rfl
  | n + 1, lo => by simp [numb, numb_len n]
theorem walk_rng {K : PySem.W.Frag} {lo : Int} {n : Nat} {ρ : Nat → Addr} {st : Sto} {H : Hp} : Walk K (Itr lo n) none (numb lo n) ρ st H := by
  refine ⟨fun i ρ2 st2 H2 d g e hi => ?_, fun i ρ2 st2 H2 g e hi => ?_⟩
  · obtain ⟨h1, rfl⟩ := numb_get (lo := lo) hi
    refine ⟨h1, fun x H3 ⟨eH, y⟩ => ?_⟩
    subst eH; subst y
    exact ⟨Go.refl g.rep, .int _, fun _ _ q => q⟩
  · rw [numb_len] at hi; exact hi
theorem enumd_get : ∀ {xs : List D} {i : Nat} {k : Int} {d : D}, (enumd k xs)[i]? = some d → ∃ x, xs[i]? = some x ∧ d = .tup [.int (k + i), x]
  | [], _, _, _, h => by simp [enumd] at h
  | x :: xs, 0, k, d, h => by simp [enumd] at h; subst h; exact ⟨x, rfl, by simp⟩
  | x :: xs, i + 1, k, d, h => by
    simp only [enumd, List.getElem?_cons_succ] at h
    obtain ⟨y, h1, h2⟩ := enumd_get h
    refine ⟨y, by simpa using h1, ?_⟩
    rw [h2]; congr 3; push_cast; omega
theorem enumd_len : ∀ (xs : List D) (k : Int), (enumd k xs).length = xs.length
  | [], _ => rfl
  | x :: xs, k => by simp [enumd, enumd_len xs]
theorem walk_enum {K : PySem.W.Frag} {n : Nat} {xs : List D} {ρ : Nat → Addr} {st : Sto} {H : Hp} (hn : n < st.length) : Walk K (Ite K (ρ n)) (some (n, xs)) (enumd 0 xs) ρ st H := by
  have key : ∀ (ρ2 : Nat → Addr) (st2 : Sto) (H2 : Hp), Go K ρ st H ρ2 st2 H2 → still (some (n, xs)) st2 = true → ∃ vs, SqL K H2 (ρ n) vs ∧ RVs K ρ2 st2.length H2 xs vs := fun ρ2 st2 H2 g e => by
    simp only [still] at e
    cases q : st2[n]? with
    | none => rw [q] at e; cases e
    | some o =>
      rw [q] at e
      have e' : o.items = xs := (sames_iff _ _).mp e
      obtain ⟨vs, h1, h2⟩ := g.rep.seq q
      rw [g.rho n hn] at h1
      exact ⟨vs, h1, e' ▸ h2⟩
  refine ⟨fun i ρ2 st2 H2 d g e hi => ?_, fun i ρ2 st2 H2 g e hi => ?_⟩
  · obtain ⟨vs, h1, h2⟩ := key ρ2 st2 H2 g e
    obtain ⟨y, hy, rfl⟩ := enumd_get hi
    obtain ⟨v, h3, h4⟩ := h2.get hy
    refine ⟨⟨vs, v, h1, h3⟩, fun x H3 ⟨T, z, ex, hT, eH, yy⟩ => ?_⟩
    subst eH; subst ex
    have ez : z = v := Option.some.inj ((yy vs h1).symm.trans h3)
    subst ez
    have gg := Go.fresh (o := .tup [.int (i : Nat), z]) g.rep hT
    refine ⟨gg, .tup (SqT.of upd_same) (.cons ?_ (.cons (gg.rv h4) .nil)), fun a o q => by rw [upd_ne (ne_of_none q hT)]; exact q⟩
    have ei : (0 : Int) + (i : Nat) = (i : Nat) := by omega
    rw [ei]; exact .int _
  · obtain ⟨vs, h1, h2⟩ := key ρ2 st2 H2 g e
    exact ⟨vs, h1, by rw [← h2.length]; rw [enumd_len] at hi; exact hi⟩

def SimI (Γ : Ctx) (tg iter : Expr) (it : It) : Prop := ∀ {n : Nat} {X : Cx}, Good Γ n X → ∀ {env : Env} {st : Sto} {r : Option (Nat × List D) × List D} {st' : Sto} {ρ : Nat → Addr} {σ : St} {H : Hp} {R : L2.It → Hp → Prop},
  evI Γ.gl (Γ.run n) it env st = .ok r st' → REnv X.K ρ st.length H env σ → Rep X.K ρ H st →
  (∀ J ρ' H', Go X.K ρ st H ρ' st' H' → Walk X.K J r.1 r.2 ρ' st' H' → R J H') → TWI X tg iter σ H R

theorem pi_seq {X : Cx} {tg l : Expr} {tl : TE} (hl : PE X l tl) : PI X tg l (fun σ H R => tl σ H fun x H1 => (∃ a, x = .ref a ∧ (∃ xs, SqL X.K H1 a xs) ∧ R (Itl X.K a) H1) ∨ ∃ a, x = .ref a ∧ (∃ xs, SqT X.K H1 a xs) ∧ R (Itt X.K a) H1) := by
  refine ⟨fun pins s σ H R I h => thn (hl.run pins s σ H _ I h) fun v s1 ⟨x, H1, I1, r1, q1⟩ => ?_⟩
  have own : ∀ b ∈ [s1.heap.objs.size], FpOk X pins H1 b := fun b hb => by
    obtain rfl : b = s1.heap.objs.size := by simpa using hb
    exact I1.fpOk (Nat.le_refl _) (I1.hok.fresh (Nat.le_refl _))
  rcases q1 with ⟨a, rfl, ⟨xs, hq⟩, q⟩ | ⟨a, rfl, ⟨xs, hq⟩, q⟩
  · cases r1
    obtain ⟨its, rv, p, hz⟩ := I1.list hq
    exact wpAny_pyIter_list p.isList ⟨s1.heap.objs.size, [s1.heap.objs.size], _, _, H1, rfl, I1.kept (t' := s1.toks) fun b o e => Heap.get?_push_of_some _ e, turn_list a _, ⟨_, Heap.get?_push_size _ rfl, rfl, rfl⟩, own, q⟩
  · cases r1
    obtain ⟨its, rv, p, hz⟩ := I1.tuple hq
    exact wpAny_pyIter_tuple (show s1.heap.IsTuple a its.toArray from p) ⟨s1.heap.objs.size, [s1.heap.objs.size], _, _, H1, rfl, I1.kept (t' := s1.toks) fun b o e => Heap.get?_push_of_some _ e, turn_tuple a _, ⟨_, Heap.get?_push_size _ rfl, rfl, rfl⟩, own, q⟩
theorem iter_seq {tg l : Expr} {i : E} (h1 : SimE Γ l i) : SimI Γ tg l (.seq i) := by
  intro n X G env st r st' ρ σ H R h re rp q
  simp only [evI] at h
  obtain ⟨x, s1, e1, h⟩ := Res.bind_eq_ok h
  unfold itOf at h
  refine TWI.of (pi_seq pe_w) (h1 G e1 re rp fun v ρ1 H1 g1 r1 => ?_)
  cases r1 with
  | tup h2 h3 =>
    cases h
    exact .inr ⟨_, rfl, ⟨_, h2⟩, q _ ρ1 H1 g1 (walk_tup h2 h3)⟩
  | ref hn =>
    rename_i m
    split at h
    · cases h
      exact .inl ⟨_, rfl, g1.rep.some_of hn, q _ ρ1 H1 g1 (walk_list hn)⟩
    · cases h
  | _ => cases h
theorem iter_rng1 {tg a : Expr} {i : E} {p pos : Pos} (ha : star a = false) (hs : Γ.sc.names.lookup ("range" : Str) = some .globalImplicit) (hb : ("range" : Str) ∈ Γ.bs) (h1 : SimE Γ a i) : SimI Γ tg (.Call (.Name "range" p) [a] [] pos) (.rng (.k (.int 0)) i) := by
  intro n X G env st r st' ρ σ H R h re rp q
  simp only [evI, ev, Res.bind_ok] at h
  obtain ⟨y, s1, e1, h⟩ := Res.bind_eq_ok h
  unfold rngOf at h
  cases y with
  | int j0 =>
    simp only at h
    split at h
    · rename_i c
      cases h
      refine TWI.of (pi_range1 (glob_of G hs) (G.blt _ hb) (pa_cons pe_w pa_nil (starEach_cons ha _ _)) (by rw [starEach_cons ha]; rfl)) (h1 G e1 re rp fun v ρ1 H1 g1 r1 => ?_)
      cases r1
      refine ⟨_, rfl, c.2.2.1, c.2.2.2, q _ ρ1 H1 g1 ?_⟩
      rw [show (j0 - 0).toNat = j0.toNat by omega]
      exact walk_rng
    · cases h
  | _ => cases h
theorem iter_rng2 {tg a b : Expr} {i j : E} {p pos : Pos} (ha : star a = false) (hb' : star b = false) (hs : Γ.sc.names.lookup ("range" : Str) = some .globalImplicit) (hb : ("range" : Str) ∈ Γ.bs) (h1 : SimE Γ a i) (h2 : SimE Γ b j) : SimI Γ tg (.Call (.Name "range" p) [a, b] [] pos) (.rng i j) := by
  intro n X G env st r st' ρ σ H R h re rp q
  simp only [evI] at h
  obtain ⟨x, s1, e1, h⟩ := Res.bind_eq_ok h
  obtain ⟨y, s2, e2, h⟩ := Res.bind_eq_ok h
  unfold rngOf at h
  split at h
  · split at h
    · rename_i c
      cases h
      refine TWI.of (pi_range2 (glob_of G hs) (G.blt _ hb) (pa_cons pe_w (pa_cons pe_w pa_nil (starEach_cons hb' _ _)) (starEach_cons ha _ _)) (by rw [starEach_cons ha, starEach_cons hb']; rfl) (by rw [starEach_cons hb']; rfl)) (h1 G e1 re rp fun v ρ1 H1 g1 r1 => h2 G e2 (re.move g1) g1.rep fun u ρ2 H2 g2 r2 => ?_)
      have r1' := g2.rv r1
      cases r1'
      cases r2
      exact ⟨_, _, rfl, c, q _ ρ2 H2 (g1.trans g2) walk_rng⟩
    · cases h
  · cases h
theorem iter_enum {elts : List Expr} {kk : Nat} {tpos : Pos} {a : Expr} {i : E} {p pos : Pos} (ha : star a = false) (hs : Γ.sc.names.lookup ("enumerate" : Str) = some .globalImplicit) (hb : ("enumerate" : Str) ∈ Γ.bs) (h1 : SimE Γ a i) : SimI Γ (.Tuple elts kk tpos) (.Call (.Name "enumerate" p) [a] [] pos) (.enum i) := by
  intro n X G env st r st' ρ σ H R h re rp q
  simp only [evI] at h
  obtain ⟨x, s1, e1, h⟩ := Res.bind_eq_ok h
  unfold enumOf at h
  split at h
  · rename_i m
    split at h
    · rename_i o ho
      cases h
      refine TWI.of (pi_enum (glob_of G hs) (G.blt _ hb) (pa_cons pe_w pa_nil (starEach_cons ha _ _)) (by rw [starEach_cons ha]; rfl)) (h1 G e1 re rp fun v ρ1 H1 g1 r1 => ?_)
      cases r1 with
      | ref hn =>
        obtain ⟨vs, sq⟩ := g1.rep.some_of hn
        exact ⟨_, vs, rfl, sq, q _ ρ1 H1 g1 (walk_enum hn)⟩
    · cases h
  · cases h

/-! ### targets -/
def TWG (X : Cx) (tg : Expr) : TG := fun v σ H Q => ∀ pins s u, Inv X pins σ H s → RelV v u → wpAny (model X.prog X.w) X.A (assign tg X.env u) (fun _ s' => ∃ σ' H', Inv X pins σ' H' s' ∧ Q σ' H') X.xe s
theorem pg_w {X : Cx} {tg : Expr} : PG X tg (TWG X tg) := ⟨fun pins s σ H v u Q I r h => h pins s u I r⟩
theorem TWG.of {X : Cx} {tg : Expr} {t : TG} {v : V} {σ : St} {H : Hp} {Q : St → Hp → Prop} (h : PG X tg t) (q : t v σ H Q) : TWG X tg v σ H Q := fun pins s u I r => h.run pins s σ H v u Q I r q
def SimG (Γ : Ctx) (tg : Expr) (t : Tg) : Prop := ∀ {n : Nat} {X : Cx}, Good Γ n X → ∀ {env env' : Env} {st st' : Sto} {d : D} {v : V} {ρ : Nat → Addr} {σ : St} {H : Hp} {Q : St → Hp → Prop},
  asg Γ.gl (Γ.run n) t d env st = .ok env' st' → REnv X.K ρ st.length H env σ → Rep X.K ρ H st → RV X.K ρ st.length H d v →
  (∀ σ' ρ' H', Go X.K ρ st H ρ' st' H' → REnv X.K ρ' st'.length H' env' σ' → σ'.length = σ.length → (∀ k : Nat, k ∉ t.slots → σ'[k]? = σ[k]?) → Q σ' H') → TWG X tg v σ H Q
def Own (Γ : Ctx) (x : Str) : Prop := Γ.sc.names.lookup x = some .local ∨ (Γ.sc.names.lookup x = some .cell ∧ Γ.cel x = true)
theorem Own.loc {x : Str} (h : Own Γ x) : Loc Γ.sc x := h.elim .inl fun z => .inr z.1
theorem Own.fn {n : Nat} {X : Cx} (G : Good Γ n X) {x : Str} (h : Own Γ x) : X.fn x = true ∨ X.env.scope.names.lookup x = some .local := by
  rw [G.sc]; exact h.elim .inr fun z => .inl (G.fn x z.2)
theorem tg_nm {x : Str} {pos : Pos} {i : Nat} (hN : Γ.N[i]? = some x) (hl : Own Γ x) : SimG Γ (.Name x pos) (.nm i) := by
  intro n X G env env' st st' d v ρ σ H Q h re rp rv q
  have h' : Res.ok (env.set i (some d)) st = Res.ok env' st' := by simpa [asg] using h
  cases h'
  refine TWG.of (pg_name (i := i) (by rw [G.N]; exact G.nd) (by rw [G.N]; exact hN) (by rw [G.sc]; exact hl.loc) (hl.fn G)) ?_
  refine q _ ρ H (Go.refl rp) (re.set i rv) (by simp) fun k hk => ?_
  have hk' : i ≠ k := fun z => hk (by simp [Tg.slots, z])
  rw [List.getElem?_set_ne hk']
def TWGs (X : Cx) (ts : List Expr) : TGs := fun vs σ H Q => ∀ pins s us, Inv X pins σ H s → Vals vs us → wpAny (model X.prog X.w) X.A (assignInOrder ((assignEach ts X.env).map (·.2)) us) (fun _ s' => ∃ σ' H', Inv X pins σ' H' s' ∧ Q σ' H') X.xe s
theorem assignEach_cons {e : Expr} (h : star e = false) (es : List Expr) (env : PySem.Env) : assignEach (e :: es) env = (false, assign e env) :: assignEach es env := by
  cases e <;> first | rfl | (simp [star] at h)
theorem tg_two {a b : Expr} {s t : Tg} {k : Nat} {pos : Pos} (ha : star a = false) (hb : star b = false) (h1 : SimG Γ a s) (h2 : SimG Γ b t) : SimG Γ (.Tuple [a, b] k pos) (.two s t) := by
  intro n X G env env' st st' d v ρ σ H Q h re rp rv q
  simp only [asg] at h
  unfold asgTup at h
  split at h
  · rename_i x y
    obtain ⟨env1, st1, e1, e2⟩ := Res.bind_eq_ok h
    cases rv with
    | tup ht rs =>
      cases rs with
      | cons r1 rs =>
        cases rs with
        | cons r2 rs =>
          cases rs
          have pgs : PGs X [a, b] (gCons (TWG X a) (gCons (TWG X b) gNil)) := pgs_cons pg_w (pgs_cons pg_w pgs_nil (by simp [assignEach_cons hb])) (by simp [assignEach_cons ha])
          refine TWG.of (pg_tup (n := 2) G.calm pgs (by rw [assignEach_cons ha, assignEach_cons hb]; rfl) (by rw [assignEach_cons ha, assignEach_cons hb]; rfl)) ?_
          refine ⟨_, _, rfl, ht, rfl, _, _, rfl, h1 G e1 re rp r1 fun σ1 ρ1 H1 g1 re1 l1 s1 => ?_⟩
          refine ⟨_, _, rfl, h2 G e2 re1 g1.rep (g1.rv r2) fun σ2 ρ2 H2 g2 re2 l2 s2 => ?_⟩
          refine ⟨rfl, q σ2 ρ2 H2 (g1.trans g2) re2 (l2.trans l1) fun k hk => ?_⟩
          have hk1 : k ∉ s.slots := fun z => hk (by simp [Tg.slots, z])
          have hk2 : k ∉ t.slots := fun z => hk (by simp [Tg.slots, z])
          rw [s2 k hk2, s1 k hk1]
  · cases h
theorem putIx_inv {o i v : D} {st st' : Sto} (h : putIx o i v st = some st') : ∃ n k, o = .ref n ∧ i = .int k ∧ setL n (fun xs => (ixN xs.length k).map fun j => xs.set j v) st = some st' := by
  cases o <;> cases i <;> first | exact ⟨_, _, rfl, rfl, h⟩ | cases h
theorem assign_sub {o i : Expr} {pos : Pos} (hi : nslice i = true) (env : PySem.Env) (v : Value) : assign (.Subscript o i pos) env v = (do
      let ov ← holding [v] (eval o env)
      let iv ← holding [v, ov] (eval i env)
      standAt pos
      holding [v, ov, iv] (setItem ov iv v)
      release [v, ov, iv] []) := by
  cases i <;> first | rfl | cases hi
theorem tg_sub {o i : Expr} {a b : E} {pos : Pos} (hi : nslice i = true) (h1 : SimE Γ o a) (h2 : SimE Γ i b) : SimG Γ (.Subscript o i pos) (.sub a b) := by
  intro n X G env env' st st' d v ρ σ H Q h re rp rv q
  simp only [asg] at h
  obtain ⟨x, s1, e1, h⟩ := Res.bind_eq_ok h
  obtain ⟨y, s2, e2, h⟩ := Res.bind_eq_ok h
  unfold putTo at h
  split at h
  · rename_i st2 e3
    cases h
    obtain ⟨m, k, rfl, rfl, e4⟩ := putIx_inv e3
    obtain ⟨xs, ys, f1, f2, f3, rfl⟩ := setL_ok e4
    obtain ⟨j, f4, rfl⟩ := map_some f2
    refine TWG.of (pg_sub pe_w pe_w set_list (fun v => assign_sub hi _ v)) (h1 G e1 re rp fun w ρ1 H1 g1 r1 => h2 G e2 (re.move g1) g1.rep fun u ρ2 H2 g2 r2 => ?_)
    cases r2
    have r1' := g2.rv r1
    cases r1' with
    | ref hn =>
      obtain ⟨vs, k1, k2⟩ := g2.rep.lst m xs f1
      have gs := Go.setL g2.rep f1 k1 (k2.set (g2.rv (g1.rv rv)) j)
      refine ⟨_, vs, _, j, rfl, rfl, k1, by rw [← k2.length]; exact f4, ?_⟩
      have gg := (g1.trans g2).trans gs
      exact q σ ρ2 _ gg (re.move gg) rfl fun _ _ => rfl
  · cases h
end RP

namespace RP
open PySem L2
variable {Γ : Ctx}

/-! ### comprehensions -/
def relS (sc scope : Scope) : Scope := { scope with names := scope.names.map fun (n, k) => if (k == .free && sc.kind == .function && sc.names.lookup n == some .cell) then (n, .cell) else (n, k) }
def Ctx.blk (Γ : Ctx) (scope : Scope) : Ctx := { Γ with sc := relS Γ.sc scope, cel := fun x => scope.names.lookup x == some .cell }
theorem Good.blk {n : Nat} {X : Cx} (G : Good Γ n X) {scope : Scope} (hk : scope.kind = .function) (s : Shared) (H : Hp) (C : Addr) (cl : List (Str × Addr)) (fp : List Addr) : Good (Γ.blk scope) n (X.blk s H scope (compEnvC scope cl C X.env) fp) where
  N := G.N
  nd := G.nd
  sc := by
    show relabel scope X.env = relS Γ.sc scope
    rw [← G.sc]; rfl
  calm := G.calm
  room := G.room
  guards := G.guards
  fn := fun x h => h
  kind := hk
  xe := rfl
  gl := G.gl
  blt := G.blt
  fns := G.fns
theorem wipe_get {σ : St} {k : Nat} : ∀ {vs : List Nat}, (wipe σ vs)[k]? = if k ∈ vs ∧ k < σ.length then some none else σ[k]?
  | [] => by simp [wipe]
  | v :: vs => by
    unfold wipe
    by_cases e : v = k
    · subst e
      by_cases hl : v < σ.length
      · rw [List.getElem?_set_self (by rw [wipe_length]; exact hl)]; simp [hl]
      · rw [List.getElem?_eq_none (by rw [List.length_set, wipe_length]; omega), List.getElem?_eq_none (by omega)]; simp [hl]
    · rw [List.getElem?_set_ne e, wipe_get (vs := vs)]
      have e' : ¬ k = v := fun z => e z.symm
      simp [e']
theorem wipe_same {σ σ' : St} {vs : List Nat} (hl : σ'.length = σ.length) (h : ∀ k : Nat, k ∉ vs → σ'[k]? = σ[k]?) : wipe σ' vs = wipe σ vs := by
  refine List.ext_getElem? fun k => ?_
  rw [wipe_get, wipe_get, hl]
  by_cases hk : k ∈ vs
  · by_cases h2 : k < σ.length
    · simp [hk, h2]
    · have e1 : σ'[k]? = none := List.getElem?_eq_none (by omega)
      have e2 : σ[k]? = none := List.getElem?_eq_none (by omega)
      simp [hk, h2, e1, e2]
  · simp [hk, h k hk]
theorem wipe_wipe {σ : St} {vs : List Nat} : wipe (wipe σ vs) vs = wipe σ vs := by
  refine List.ext_getElem? fun k => ?_
  rw [wipe_get, wipe_get, wipe_length]
  by_cases hk : k ∈ vs ∧ k < σ.length <;> simp [hk]

def SimTs (Γ : Ctx) (ifs : List Expr) (c : E) : Prop := (ifs = [] ∧ c = .k (.bl true)) ∨ ∃ e, ifs = [e] ∧ SimT Γ e c

/-- the readings in a block, whatever block of this text it is -/
def bE (X : Cx) (scope : Scope) (e : Expr) : TE := fun σ H Q => ∀ s0 H0 C cl fp, TW (X.blk s0 H0 scope (compEnvC scope cl C X.env) fp) e σ H Q
def bT (X : Cx) (scope : Scope) (e : Expr) : TT := fun σ H Q => ∀ s0 H0 C cl fp, TWT (X.blk s0 H0 scope (compEnvC scope cl C X.env) fp) e σ H Q
def bG (X : Cx) (scope : Scope) (e : Expr) : TG := fun v σ H Q => ∀ s0 H0 C cl fp, TWG (X.blk s0 H0 scope (compEnvC scope cl C X.env) fp) e v σ H Q
def bTs (X : Cx) (scope : Scope) : List Expr → TT
  | [e] => bT X scope e
  | _ => tYes

theorem comp_core {n : Nat} {X : Cx} (G : Good Γ n X) {tg iter elt : Expr} {ifs : List Expr} {scope : Scope} {t : Tg} {it : It} {c e : E} (hk : scope.kind = .function)
    (hi : SimI Γ tg iter it) (hg : SimG (Γ.blk scope) tg t) (hc : SimTs (Γ.blk scope) ifs c) (he : SimE (Γ.blk scope) elt e)
    {env : Env} {st : Sto} {d : D} {st' : Sto} {ρ : Nat → Addr} {σ : St} {H : Hp} {Q : VK} (h : ev Γ.gl (Γ.run n) (.comp t it c e) env st = .ok d st') (re : REnv X.K ρ st.length H env σ) (rp : Rep X.K ρ H st)
    (q : ∀ v ρ' H', Go X.K ρ st H ρ' st' H' → RV X.K ρ' st'.length H' d v → Q v H') :
    tLc (TWI X tg iter) (bG X scope tg) (bTs X scope ifs) (bE X scope elt) t.slots σ H Q := by
  simp only [ev] at h
  obtain ⟨r, s1, e1, h⟩ := Res.bind_eq_ok h
  obtain ⟨_, s2, e2, h⟩ := Res.bind_eq_ok h
  cases h
  refine hi G e1 re rp fun J ρ1 H1 g1 W1 => ?_
  intro p hp
  have gn := Go.newL (ds := []) (vs := []) g1.rep hp .nil
  have e0 : (put ρ1 s1.length p) s1.length = p := put_same
  refine ⟨fun i m H2 => m = r.2.length - i ∧ i ≤ r.2.length ∧ ∃ ρ2 s2', Go X.K (put ρ1 s1.length p) (s1 ++ [.lst []]) (upd H1 p (.lst [])) ρ2 s2' H2 ∧
    compLoop (asg Γ.gl (Γ.run n) t) (ev Γ.gl (Γ.run n) c) (ev Γ.gl (Γ.run n) e) r.1 s1.length (wipeE env t.slots) (r.2.drop i) s2' = .ok () st', ⟨r.2.length, by simp, by omega, put ρ1 s1.length p, _, Go.refl gn.rep, by simpa using e2⟩, ?_⟩
  rintro i m H2 ⟨rfl, hi', ρ2, s2', g2, e2⟩
  by_cases hlt : i < r.2.length
  · right
    have hx : r.2[i]? = some r.2[i] := List.getElem?_eq_getElem hlt
    rw [List.drop_eq_getElem_cons hlt] at e2
    simp only [compLoop] at e2
    split at e2
    · rename_i hs
      obtain ⟨env1, s3, e3, e2⟩ := Res.bind_eq_ok e2
      obtain ⟨cv, s4, e4, e2⟩ := Res.bind_eq_ok e2
      obtain ⟨hgo, hy⟩ := W1.item i ρ2 s2' H2 _ (gn.trans g2) hs hx
      refine ⟨hgo, fun H9 => i + 1 ≤ r.2.length ∧ ∃ ρ2 s2', Go X.K (put ρ1 s1.length p) (s1 ++ [.lst []]) (upd H1 p (.lst [])) ρ2 s2' H9 ∧
        compLoop (asg Γ.gl (Γ.run n) t) (ev Γ.gl (Γ.run n) c) (ev Γ.gl (Γ.run n) e) r.1 s1.length (wipeE env t.slots) (r.2.drop (i + 1)) s2' = .ok () st', fun H9 ⟨h1, h2⟩ => ⟨r.2.length - (i + 1), by omega, rfl, h1, h2⟩, fun x H3 hx3 => ?_⟩
      obtain ⟨g3, r3, _⟩ := hy x H3 hx3
      intro s0 H0 C cl fp
      have Gb := G.blk hk s0 H0 C cl fp
      have rew : REnv X.K ρ2 s2'.length H3 (wipeE env t.slots) (wipe σ t.slots) := (re.move ((((g1.trans gn).trans g2)).trans g3)).wipe _
      refine hg Gb e3 rew g3.rep r3 fun σ4 ρ4 H4 g4 re4 l4 s4' => ⟨?_, ?_⟩
      · rw [wipe_same l4 s4', wipe_wipe]
      have fin : ∀ {ρ9 : Nat → Addr} {s9 : Sto} {H9 : Hp}, Go X.K ρ2 s2' H2 ρ9 s9 H9 → Go X.K (put ρ1 s1.length p) (s1 ++ [.lst []]) (upd H1 p (.lst [])) ρ9 (trim (s1.length + 1) 0 s9) H9 := fun g9 => by
        have z := Go.trim (t := 0) (g2.trans g9)
        rw [List.length_append] at z
        exact z
      unfold br at e2
      split at e2
      · rename_i ht
        obtain ⟨yv, s5, e5, e2⟩ := Res.bind_eq_ok e2
        split at e2
        · rename_i s6 e6
          obtain ⟨xs, zs, f1, f2, f3, rfl⟩ := setL_ok e6
          cases f2
          have body : ∀ (ρ5 : Nat → Addr) (H5 : Hp), Go X.K ρ4 s3 H4 ρ5 s4 H5 → bE X scope elt σ4 H5 fun y H6 => ∃ acc, H6 p = some (.lst acc) ∧ acc.length < sizeLine ∧ (i + 1 ≤ r.2.length ∧ ∃ ρ2 s2', Go X.K (put ρ1 s1.length p) (s1 ++ [.lst []]) (upd H1 p (.lst [])) ρ2 s2' (upd H6 p (.lst (acc ++ [y]))) ∧
              compLoop (asg Γ.gl (Γ.run n) t) (ev Γ.gl (Γ.run n) c) (ev Γ.gl (Γ.run n) e) r.1 s1.length (wipeE env t.slots) (r.2.drop (i + 1)) s2' = .ok () st') := fun ρ5 H5 g5 => by
            intro s0 H0 C cl fp
            refine he (G.blk hk s0 H0 C cl fp) e5 (re4.move g5) g5.rep fun y ρ6 H6 g6 r6 => ?_
            obtain ⟨vs, k1, k2⟩ := g6.rep.lst s1.length xs f1
            have gg := g2.trans (((g3.trans g4).trans g5).trans g6)
            have gs := Go.setL g6.rep f1 k1 (k2.app (.cons r6 .nil))
            have ep : ρ6 s1.length = p := by rw [gg.rho s1.length (by simp)]; exact put_same
            rw [ep] at k1 gs
            refine ⟨vs, k1, by rw [← k2.length]; simp at f3; omega, by omega, ρ6, _, fin ((((g3.trans g4).trans g5).trans g6).trans gs), e2⟩
          rcases hc with ⟨rfl, rfl⟩ | ⟨ce, rfl, hc⟩
          · have e4' : Res.ok (D.bl true) s3 = Res.ok cv s4 := by simpa [ev] using e4
            cases e4'
            simp only [bTs, tYes, if_true]
            exact body ρ4 H4 (Go.refl g4.rep)
          · intro s0 H0 C cl fp
            refine hc (G.blk hk s0 H0 C cl fp) e4 ht re4 g4.rep fun ρ5 H5 g5 => ?_
            rw [if_pos rfl]
            exact body ρ5 H5 g5
        · cases e2
      · rename_i ht
        rcases hc with ⟨rfl, rfl⟩ | ⟨ce, rfl, hc⟩
        · have e4' : Res.ok (D.bl true) s3 = Res.ok cv s4 := by simpa [ev] using e4
          cases e4'
          cases ht
        · intro s0 H0 C cl fp
          refine hc (G.blk hk s0 H0 C cl fp) e4 ht re4 g4.rep fun ρ5 H5 g5 => ?_
          rw [if_neg Bool.false_ne_true]
          exact ⟨by omega, ρ5, _, fin ((g3.trans g4).trans g5), e2⟩
      · cases e2
    · cases e2
  · left
    rw [List.drop_eq_nil_of_le (by omega)] at e2
    simp only [compLoop] at e2
    split at e2
    · rename_i hs
      cases e2
      refine ⟨W1.stop i ρ2 st' H2 (gn.trans g2) hs (by omega), q _ ρ2 H2 ((g1.trans gn).trans g2) ?_⟩
      have z := g2.rv (d := .ref s1.length) (v := .ref p) RV.last
      exact z
    · cases e2

/-- no set is walked -/
theorem folded {e : Expr} (h : nset e = true) (env : PySem.Env) (x : Value) : foldedSetIterable e env x = pure x := by
  cases e <;> first | rfl | cases h
theorem pg_b {X : Cx} {scope : Scope} {tg : Expr} (s : Shared) (H : Hp) (C : Addr) (cl : List (Str × Addr)) (fp : List Addr) : PG (X.blk s H scope (compEnvC scope cl C X.env) fp) tg (bG X scope tg) := ⟨fun pins s' σ H' v u Q I r h => h s H C cl fp pins s' u I r⟩
theorem pe_b {X : Cx} {scope : Scope} {e : Expr} (s : Shared) (H : Hp) (C : Addr) (cl : List (Str × Addr)) (fp : List Addr) : PE (X.blk s H scope (compEnvC scope cl C X.env) fp) e (bE X scope e) := ⟨fun pins s' σ H' Q I h => h s H C cl fp pins s' I⟩
theorem pt_b {X : Cx} {scope : Scope} {e : Expr} (s : Shared) (H : Hp) (C : Addr) (cl : List (Str × Addr)) (fp : List Addr) : PT (X.blk s H scope (compEnvC scope cl C X.env) fp) e (bT X scope e) := ⟨fun pins s' σ H' Q I h => h s H C cl fp pins s' I⟩
theorem pts_b {X : Cx} {Γ' : Ctx} {scope : Scope} {ifs : List Expr} {c : E} (hc : SimTs Γ' ifs c) (s : Shared) (H : Hp) (C : Addr) (cl : List (Str × Addr)) (fp : List Addr) : PTs (X.blk s H scope (compEnvC scope cl C X.env) fp) ifs (bTs X scope ifs) := by
  rcases hc with ⟨rfl, _⟩ | ⟨e, rfl, _⟩
  · exact pts_nil
  · exact pts_one (pt_b s H C cl fp)
theorem sim_comp {tg iter elt : Expr} {ifs : List Expr} {scope : Scope} {pos : Pos} {own : List (Str × Nat)} {t : Tg} {it : It} {c e : E} (ok : BlkOk Γ.N Γ.sc scope own) (ho : own.map (·.2) = t.slots) (hn : nset iter = true)
    (hi : SimI Γ tg iter it) (hg : SimG (Γ.blk scope) tg t) (hc : SimTs (Γ.blk scope) ifs c) (he : SimE (Γ.blk scope) elt e) : SimE Γ (.ListComp elt [⟨tg, iter, ifs, 0⟩] scope pos) (.comp t it c e) := by
  intro n X G env st d st' ρ σ H Q h re rp q
  refine TW.of (pe_lc (own := own) G.calm (by rw [G.N]; exact G.nd) pi_w (by rw [G.N, G.sc]; exact ok) pg_b (pts_b hc) pe_b (folded hn _)) ?_
  rw [ho]
  exact comp_core G ok.kind hi hg hc he h re rp q

/-! ### statements -/
def SimS (Γ : Ctx) (c : Stmt) (i : S) : Prop := ∀ {n : Nat} {X : Cx}, Good Γ n X → ∀ {env : Env} {st : Sto} {f : Fl} {st' : Sto} {ρ : Nat → Addr} {σ : St} {H : Hp} {D : Ends},
  evS Γ.gl (Γ.run n) i env st = .ok f st' → REnv X.K ρ st.length H env σ → Rep X.K ρ H st →
  (∀ env' σ' ρ' H', f = .nx env' → Go X.K ρ st H ρ' st' H' → REnv X.K ρ' st'.length H' env' σ' → D.nx σ' H') →
  (∀ d v ρ' H', f = .rt d → Go X.K ρ st H ρ' st' H' → RV X.K ρ' st'.length H' d v → D.rt v H') → TWS X c D σ H
def SimSs (Γ : Ctx) (cs : List Stmt) (is : Ss) : Prop := ∀ {n : Nat} {X : Cx}, Good Γ n X → ∀ {env : Env} {st : Sto} {f : Fl} {st' : Sto} {ρ : Nat → Addr} {σ : St} {H : Hp} {D : Ends},
  evSs Γ.gl (Γ.run n) is env st = .ok f st' → REnv X.K ρ st.length H env σ → Rep X.K ρ H st →
  (∀ env' σ' ρ' H', f = .nx env' → Go X.K ρ st H ρ' st' H' → REnv X.K ρ' st'.length H' env' σ' → D.nx σ' H') →
  (∀ d v ρ' H', f = .rt d → Go X.K ρ st H ρ' st' H' → RV X.K ρ' st'.length H' d v → D.rt v H') → TWSs X cs D σ H
theorem sims_nil : SimSs Γ [] .nil := by
  intro n X G env st f st' ρ σ H D h re rp q1 q2
  have h' : Res.ok (Fl.nx env) st = Res.ok f st' := by simpa [evSs] using h
  cases h'
  exact TWSs.of pss_nil (q1 env σ ρ H rfl (Go.refl rp) re)
theorem sims_cons {c : Stmt} {cs : List Stmt} {i : S} {is : Ss} (h1 : SimS Γ c i) (h2 : SimSs Γ cs is) : SimSs Γ (c :: cs) (.cons i is) := by
  intro n X G env st f st' ρ σ H D h re rp q1 q2
  simp only [evSs] at h
  obtain ⟨f1, s1, e1, h⟩ := Res.bind_eq_ok h
  refine TWSs.of (pss_cons ps_w pss_w) (h1 G e1 re rp (fun env' σ' ρ' H' ef g r => ?_) fun d v ρ' H' ef g r => ?_)
  · subst ef
    exact h2 G h r g.rep (fun env2 σ2 ρ2 H2 ef2 g2 r2 => q1 env2 σ2 ρ2 H2 ef2 (g.trans g2) r2) fun d v ρ2 H2 ef2 g2 r2 => q2 d v ρ2 H2 ef2 (g.trans g2) r2
  · subst ef
    have h' : Res.ok (Fl.rt d) s1 = Res.ok f st' := h
    cases h'
    exact q2 d v ρ' H' rfl g r
theorem s_skip {pos : Pos} : SimS Γ (.Pass pos) .skip := by
  intro n X G env st f st' ρ σ H D h re rp q1 q2
  have h' : Res.ok (Fl.nx env) st = Res.ok f st' := by simpa [evS] using h
  cases h'
  exact TWS.of ps_pass (q1 env σ ρ H rfl (Go.refl rp) re)
theorem s_never {c : Stmt} : SimS Γ c .never := by
  intro n X G env st f st' ρ σ H D h re rp q1 q2
  simp [evS] at h
/-- no comprehension -/
def ncomp : Expr → Bool
  | .ListComp _ _ _ _ => false
  | .SetComp _ _ _ _ => false
  | .DictComp _ _ _ _ _ => false
  | _ => true
theorem swaps_no {e : Expr} (h : ncomp e = true) (t : Option Expr) (l : Nat) (env : PySem.Env) : swapsWith e t l env = pure false := by
  cases e <;> first | rfl | cases h
theorem s_ex {e : Expr} {i : E} {pos : Pos} (hc : ncomp e = true) (h1 : SimE Γ e i) : SimS Γ (.Expr e pos) (.ex i) := by
  intro n X G env st f st' ρ σ H D h re rp q1 q2
  simp only [evS] at h
  obtain ⟨x, s1, e1, h⟩ := Res.bind_eq_ok h
  cases h
  exact TWS.of (ps_expr pe_w (swaps_no hc _ _ _)) (h1 G e1 re rp fun v ρ1 H1 g1 r1 => q1 env σ ρ1 H1 rfl g1 (re.move g1))
theorem s_ret {e : Expr} {i : E} {pos : Pos} (h1 : SimE Γ e i) : SimS Γ (.Return (some e) pos) (.ret i) := by
  intro n X G env st f st' ρ σ H D h re rp q1 q2
  simp only [evS] at h
  obtain ⟨x, s1, e1, h⟩ := Res.bind_eq_ok h
  cases h
  exact TWS.of (ps_ret pe_w) (h1 G e1 re rp fun v ρ1 H1 g1 r1 => q2 _ v ρ1 H1 rfl g1 r1)
theorem s_retN {pos : Pos} : SimS Γ (.Return none pos) (.ret (.k .non)) := by
  intro n X G env st f st' ρ σ H D h re rp q1 q2
  simp only [evS, ev, Res.bind_ok] at h
  cases h
  exact TWS.of ps_retN (q2 _ _ ρ H rfl (Go.refl rp) .non)
theorem s_ife {c : Expr} {a b : List Stmt} {i : E} {x y : Ss} {pos : Pos} (h0 : SimT Γ c i) (h1 : SimSs Γ a x) (h2 : SimSs Γ b y) : SimS Γ (.If c a b pos) (.ife i x y) := by
  intro n X G env st f st' ρ σ H D h re rp q1 q2
  simp only [evS] at h
  obtain ⟨d, s1, e1, h⟩ := Res.bind_eq_ok h
  unfold br at h
  split at h
  · rename_i hb
    refine TWS.of (ps_if pt_w pss_w pss_w) (h0 G e1 hb re rp fun ρ1 H1 g1 => ?_)
    rw [if_pos rfl]
    exact h1 G h (re.move g1) g1.rep (fun env2 σ2 ρ2 H2 ef2 g2 r2 => q1 env2 σ2 ρ2 H2 ef2 (g1.trans g2) r2) fun d v ρ2 H2 ef2 g2 r2 => q2 d v ρ2 H2 ef2 (g1.trans g2) r2
  · rename_i hb
    refine TWS.of (ps_if pt_w pss_w pss_w) (h0 G e1 hb re rp fun ρ1 H1 g1 => ?_)
    rw [if_neg Bool.false_ne_true]
    exact h2 G h (re.move g1) g1.rep (fun env2 σ2 ρ2 H2 ef2 g2 r2 => q1 env2 σ2 ρ2 H2 ef2 (g1.trans g2) r2) fun d v ρ2 H2 ef2 g2 r2 => q2 d v ρ2 H2 ef2 (g1.trans g2) r2
  · cases h
/-- a value that is no tuple display -/
def ntup : Expr → Bool
  | .Tuple _ _ _ => false
  | _ => true
theorem stores_no1 {t e : Expr} (h : ntup e = true) (env : PySem.Env) : swappedStores [t] e env = pure none := by
  cases e <;> first | (cases h; done) | (cases t <;> rfl)
theorem stores_no2 {x : Str} {p : Pos} {e : Expr} (env : PySem.Env) : swappedStores [.Name x p] e env = pure none := by
  cases e <;> rfl
theorem stores_no3 {o i : Expr} {p : Pos} {e : Expr} (env : PySem.Env) : swappedStores [.Subscript o i p] e env = pure none := by
  cases e <;> rfl
theorem s_asg {tg e : Expr} {t : Tg} {i : E} {pos : Pos} (ht : star tg = false) (hw : ∀ env : PySem.Env, env.scope = Γ.sc → swappedStores [tg] e env = pure none) (hc : ncomp e = true) (h1 : SimE Γ e i) (h2 : SimG Γ tg t) : SimS Γ (.Assign [tg] e pos) (.asg t i) := by
  intro n X G env st f st' ρ σ H D h re rp q1 q2
  simp only [evS] at h
  obtain ⟨x, s1, e1, h⟩ := Res.bind_eq_ok h
  obtain ⟨env1, s2, e2, h⟩ := Res.bind_eq_ok h
  cases h
  refine TWS.of (ps_asg pe_w pg_w (swaps_no hc _ _ _) (hw _ G.sc) (by rw [assignEach_cons ht]; rfl)) (h1 G e1 re rp fun v ρ1 H1 g1 r1 => ?_)
  exact h2 G e2 (re.move g1) g1.rep r1 fun σ' ρ' H' g r _ _ => q1 env1 σ' ρ' H' rfl (g1.trans g) r
theorem s_asgLc {y : Str} {py : Pos} {j : Nat} {tg iter elt : Expr} {ifs : List Expr} {scope : Scope} {pos spos : Pos} {own : List (Str × Nat)} {t : Tg} {it : It} {c e : E} (hy : Γ.N[j]? = some y) (hyl : Γ.sc.names.lookup y = some .local) (hl : (py.line == pos.line) = true)
    (ha : (scope.names.any fun (n, k) => n == y && (k == .local || k == .cell)) = false) (ok : BlkOk Γ.N Γ.sc scope own) (ho : own.map (·.2) = t.slots) (hn : nset iter = true)
    (hi : SimI Γ tg iter it) (hg : SimG (Γ.blk scope) tg t) (hc : SimTs (Γ.blk scope) ifs c) (he : SimE (Γ.blk scope) elt e) : SimS Γ (.Assign [.Name y py] (.ListComp elt [⟨tg, iter, ifs, 0⟩] scope pos) spos) (.asg (.nm j) (.comp t it c e)) := by
  intro n X G env st f st' ρ σ H D h re rp q1 q2
  simp only [evS] at h
  obtain ⟨x, s1, e1, h⟩ := Res.bind_eq_ok h
  obtain ⟨env1, s2, e2, h⟩ := Res.bind_eq_ok h
  cases h
  have e2' : Res.ok (env.set j (some x)) s1 = Res.ok env1 st' := by simpa [asg] using e2
  cases e2'
  refine TWS.of (ps_setLc (i := j) (own := own) G.calm (by rw [G.N]; exact G.nd) (by rw [G.N]; exact hy) (by rw [G.sc]; exact hyl) (sw_true (by rw [G.sc]; exact G.kind) (by rw [G.sc]; exact hyl) hl ha) pi_w (by rw [G.N, G.sc]; exact ok) pg_b (pts_b hc) pe_b (folded hn _)) ?_
  rw [ho]
  exact comp_core G ok.kind hi hg hc he e1 re rp fun v ρ1 H1 g1 r1 => q1 _ _ ρ1 H1 rfl g1 ((re.move g1).set j r1)
theorem s_two {x y : Str} {i j : Nat} {a b : Expr} {k l : E} {px py pt pt2 pos : Pos} {kt k2 : Nat} (hi : Γ.N[i]? = some x) (hj : Γ.N[j]? = some y) (hij : i ≠ j) (hx : Γ.sc.names.lookup x = some .local) (hy : Γ.sc.names.lookup y = some .local)
    (hw : ∀ env : PySem.Env, env.scope = Γ.sc → swappedStores [.Tuple [.Name x px, .Name y py] kt pt] (.Tuple [a, b] k2 pt2) env = pure (some [x, y])) (ha : star a = false) (hb : star b = false) (h1 : SimE Γ a k) (h2 : SimE Γ b l) :
    SimS Γ (.Assign [.Tuple [.Name x px, .Name y py] kt pt] (.Tuple [a, b] k2 pt2) pos) (.two i j k l) := by
  intro n X G env st f st' ρ σ H D h re rp q1 q2
  simp only [evS] at h
  obtain ⟨x1, s1, e1, h⟩ := Res.bind_eq_ok h
  obtain ⟨x2, s2, e2, h⟩ := Res.bind_eq_ok h
  cases h
  refine TWS.of (ps_par (i := i) (j := j) G.calm (by rw [G.N]; exact G.nd) (by rw [G.N]; exact hi) (by rw [G.N]; exact hj) hij (by rw [G.sc]; exact hx) (by rw [G.sc]; exact hy) (pa_cons pe_w (pa_cons pe_w pa_nil (starEach_cons hb _ _)) (starEach_cons ha _ _)) (hw _ G.sc) rfl)
    (h1 G e1 re rp fun v ρ1 H1 g1 r1 => h2 G e2 (re.move g1) g1.rep fun u ρ2 H2 g2 r2 => ⟨v, u, rfl, ?_⟩)
  exact q1 _ _ ρ2 H2 rfl (g1.trans g2) (((re.move (g1.trans g2)).set i (g2.rv r1)).set j r2)
def rIp (X : Cx) (op : Operator) : V → V → Hp → VK → Prop := fun v u H Q => ∃ r, PIp X op r ∧ r v u H Q
theorem ipAll {X : Cx} {op : Operator} : PIp X op (rIp X op) := fun pins s σ H x y v u Q I rx ry ⟨r, h, q⟩ => h pins s σ H x y v u Q I rx ry q
/-- name op= e: sums and differences of ints -/
theorem aug_ok {X : Cx} {o : Bin} {x y d : D} {st st' : Sto} {ρ : Nat → Addr} {L : Nat} {H : Hp} {v u : V} {Q : VK} (h : augD o x y st = .ok d st') (rx : RV X.K ρ L H x v) (ry : RV X.K ρ L H y u) (q : ∀ i, d = .int i → st' = st → Q (.int i) H) : rIp X o.op v u H Q := by
  unfold augD at h
  split at h
  · cases h; cases rx; cases ry
    exact ⟨_, ip_add, _, _, rfl, rfl, q _ rfl rfl⟩
  · cases h; cases rx; cases ry
    exact ⟨_, ip_sub, _, _, rfl, rfl, q _ rfl rfl⟩
  · cases h
theorem s_aug {x : Str} {i : Nat} {e : Expr} {j : E} {o : Bin} {p pos : Pos} (hi : Γ.N[i]? = some x) (hx : Own Γ x) (h1 : SimE Γ e j) : SimS Γ (.AugAssign (.Name x p) o.op e pos) (.aug i o j) := by
  intro n X G env st f st' ρ σ H D h re rp q1 q2
  simp only [evS] at h
  obtain ⟨d0, s0, e0, h⟩ := Res.bind_eq_ok h
  unfold lkV at e0
  split at e0
  · rename_i d0' e0'
    cases e0
    have e0 := e0'
    obtain ⟨y, s1, e1, h⟩ := Res.bind_eq_ok h
    obtain ⟨z, s2, e2, h⟩ := Res.bind_eq_ok h
    cases h
    obtain ⟨v0, k1, k2⟩ := re.get i d0 e0
    refine TWS.of (ps_aug (i := i) (by rw [G.N]; exact G.nd) (by rw [G.N]; exact hi) (by rw [G.sc]; exact hx.loc) pe_w ipAll (hx.fn G)) ⟨v0, k1, h1 G e1 re rp fun v ρ1 H1 g1 r1 => ?_⟩
    refine aug_ok e2 (g1.rv k2) r1 fun k ek es => ?_
    subst ek; subst es
    exact q1 _ _ ρ1 H1 rfl g1 ((re.move g1).set i (.int k))
  · cases e0
theorem s_for {tg iter : Expr} {body : List Stmt} {t : Tg} {it : It} {b : Ss} {pos : Pos} (hn : nset iter = true) (hi : SimI Γ tg iter it) (hg : SimG Γ tg t) (hb : SimSs Γ body b) : SimS Γ (.For tg iter body [] pos) (.for_ t it b) := by
  intro n X G env st f st' ρ σ H D h re rp q1 q2
  simp only [evS] at h
  obtain ⟨r, s1, e1, h⟩ := Res.bind_eq_ok h
  have hp : PassesOwn (model X.prog X.w) X.A X.env X.xe := by rw [G.xe]; exact PassesOwn.never
  refine TWS.of (ps_for hp G.calm pi_w pg_w pss_w (folded hn _)) (hi G e1 re rp fun J ρ1 H1 g1 W1 => ?_)
  refine ⟨fun i m σ2 H2 => m = r.2.length - i ∧ i ≤ r.2.length ∧ ∃ ρ2 s2 env2, Go X.K ρ1 s1 H1 ρ2 s2 H2 ∧ REnv X.K ρ2 s2.length H2 env2 σ2 ∧
    forLoop (asg Γ.gl (Γ.run n) t) (evSs Γ.gl (Γ.run n) b) r.1 s1.length (r.2.drop i) env2 s2 = .ok f st', ⟨r.2.length, by simp, by omega, ρ1, s1, env, Go.refl g1.rep, re.move g1, by simpa using h⟩, ?_⟩
  rintro i m σ2 H2 ⟨rfl, hi', ρ2, s2, env2, g2, re2, e2⟩
  by_cases hlt : i < r.2.length
  · right
    have hx : r.2[i]? = some r.2[i] := List.getElem?_eq_getElem hlt
    rw [List.drop_eq_getElem_cons hlt] at e2
    simp only [forLoop] at e2
    split at e2
    · rename_i hs
      obtain ⟨env3, s3, e3, e2⟩ := Res.bind_eq_ok e2
      obtain ⟨f4, s4, e4, e2⟩ := Res.bind_eq_ok e2
      obtain ⟨hgo, hy⟩ := W1.item i ρ2 s2 H2 _ g2 hs hx
      refine ⟨hgo, fun σ9 H9 => i + 1 ≤ r.2.length ∧ ∃ ρ2 s2 env2, Go X.K ρ1 s1 H1 ρ2 s2 H9 ∧ REnv X.K ρ2 s2.length H9 env2 σ9 ∧
        forLoop (asg Γ.gl (Γ.run n) t) (evSs Γ.gl (Γ.run n) b) r.1 s1.length (r.2.drop (i + 1)) env2 s2 = .ok f st', fun σ9 H9 ⟨h1, h2⟩ => ⟨r.2.length - (i + 1), by omega, rfl, h1, h2⟩, fun x H3 hx3 => ?_⟩
      obtain ⟨g3, r3, _⟩ := hy x H3 hx3
      refine hg G e3 (re2.move g3) g3.rep r3 fun σ4 ρ4 H4 g4 re4 _ _ => ?_
      refine hb G e4 re4 g4.rep (fun env5 σ5 ρ5 H5 ef g5 re5 => ?_) fun d v ρ5 H5 ef g5 r5 => ?_
      · subst ef
        have gg := g2.trans ((g3.trans g4).trans g5)
        exact ⟨by omega, ρ5, _, env5, gg.trim, re5.trim gg.len, e2⟩
      · subst ef
        have e2' : Res.ok (Fl.rt d) s4 = Res.ok f st' := e2
        cases e2'
        exact q2 d v ρ5 H5 rfl (g1.trans (g2.trans ((g3.trans g4).trans g5))) r5
    · cases e2
  · left
    rw [List.drop_eq_nil_of_le (by omega)] at e2
    simp only [forLoop] at e2
    split at e2
    · rename_i hs
      cases e2
      exact ⟨W1.stop i ρ2 _ H2 g2 hs (by omega), q1 env2 σ2 ρ2 H2 rfl (g1.trans g2) re2⟩
    · cases e2
end RP

namespace RP
open PySem L2

/-! ### defs -/
structure Row where
  x : Str
  ps : List Str
  N : List Str
  st : Stmt
  fd : Fd
structure Tab where
  rows : List Row
  gls : List (Str × D)
  bs : List Str
def Tab.ctx (T : Tab) (r : Row) : Ctx := { N := r.N, sc := defScope r.st, fns := T.rows.map fun r => (r.x, r.ps), gls := T.gls, bs := T.bs, cel := fun _ => true, P := T.rows.map (·.fd) }
def Tab.gl (T : Tab) : List D := T.gls.map (·.2)
def Tab.P (T : Tab) : List Fd := T.rows.map (·.fd)
structure RowOk (T : Tab) (r : Row) : Prop where
  scope : FnScope r.N r.ps (defScope r.st)
  sim : SimSs (T.ctx r) (defBody r.st) r.fd.body
  np : r.fd.np = r.ps.length
  nn : r.fd.nn = r.N.length
structure Live (K : PySem.W.Frag) (mg : Str → Option Value) (r : Row) (f : Addr) (fd : FuncData) : Prop where
  fn : Fun K r.x r.x r.st f fd
  mgx : mg r.x = some (.ref f)
  binds : Binds K fd r.ps []
structure Facts (T : Tab) (K : PySem.W.Frag) (mg : Str → Option Value) : Prop where
  rows : ∀ r ∈ T.rows, RowOk T r
  live : ∀ r ∈ T.rows, ∃ f fd, Live K mg r f fd
  gl : ∀ (k : Nat) (x : Str) (d : D), T.gls[k]? = some (x, d) → ∃ v u, mg x = some u ∧ RelV v u ∧ ∀ ρ L H, RV K ρ L H d v
  blt : ∀ x ∈ T.bs, mg x = none

theorem start_env {K : PySem.W.Frag} {ρ : Nat → Addr} {L : Nat} {H : Hp} {N : List Str} {ds : List D} {vs : List V} {m : Nat} (r : RVs K ρ L H ds vs) (hm : m = N.length - vs.length) : REnv K ρ L H (ds.map some ++ List.replicate m none) (L2.start N vs) := by
  subst hm
  refine ⟨by simp [L2.start, r.length], fun i d h => ?_⟩
  have hi : i < ds.length := by
    by_cases hi : i < ds.length
    · exact hi
    · rw [List.getElem?_append_right (by simpa using hi), List.getElem?_replicate] at h
      split at h <;> cases h
  rw [List.getElem?_append_left (by simpa using hi), List.getElem?_map] at h
  cases e : ds[i]? with
  | none => rw [e] at h; cases h
  | some d' =>
    rw [e] at h; cases h
    obtain ⟨v, h1, h2⟩ := r.get e
    refine ⟨v, ?_, h2⟩
    unfold L2.start
    rw [List.getElem?_append_left (by rw [List.length_map, ← r.length]; exact hi), List.getElem?_map, h1]
    rfl

variable {P : Program} {w : World} {K : PySem.W.Frag} {mg : Str → Option Value} {base : Heap}

theorem fg_step {T : Tab} (F : Facts T K mg) {n : Nat} (IH : ∀ (k : Nat) (r : Row) (f : Addr) (fd : FuncData), T.rows[k]? = some r → Live K mg r f fd → FG P w K mg base n f fd r.ps (callN T.gl T.P n k))
    {k : Nat} {r : Row} {f : Addr} {fd : FuncData} (hk : T.rows[k]? = some r) (Lv : Live K mg r f fd) : FG P w K mg base (n + 1) f fd r.ps (callN T.gl T.P (n + 1) k) := by
  have hr := F.rows r (List.mem_of_getElem? hk)
  have S := hr.scope
  obtain ⟨oc, od, kV, doc, pm, an, cdv, ct, osl, rfl, lk, hcd⟩ := Lv.fn.ex
  intro A outer s H args us vs ds st ρ Q d st' room hg e0 hb r1 hl rv rp hrun q
  have hPk : T.P[k]? = some r.fd := by simp [Tab.P, hk]
  have hds : ds.length = r.fd.np := by rw [rv.length, hl, hr.np]
  simp only [callN, hPk, hds, if_true] at hrun
  obtain ⟨fl, s2, e2, hrun⟩ := Res.bind_eq_ok hrun
  have hlen : r.fd.nn - r.fd.np = r.N.length - vs.length := by rw [hr.nn, hr.np, hl]
  have KX : K.In s.heap := e0.mod.kin.keeps fun b o e => (e0.bs b o e).1
  have lim : s.heap.NoLimit := e0.mod.nolimit.keeps fun b o e => (e0.bs b o e).1
  have hkind : ∀ y ∈ r.ps.zip us, (defScope r.st).names.lookup y.1 = some .local ∨ ((defScope r.st).names.lookup y.1 = some .cell ∧ ((cellsFrom (s.heap.objs.size + 1) (defScope r.st).names []).lookup y.1).isSome = true) := fun ⟨m, v⟩ hy =>
    (S.par m (List.of_mem_zip hy).1).elim .inl fun z => .inr ⟨z, PySem.W.cellsFrom_some _ _ _ (.inl z)⟩
  refine codeAny_call_function room.depth (KX _ _ lk) rfl S.co S.gen rfl (PySem.W.codeRec_of KX hcd) (hb _ _ _ _ ?_)
  refine wpAny_newFunctionEnv_cells S.kind hkind fun env he s1 x => ?_
  subst he
  refine ⟨lim.keeps x.toInCall.keep, codeAny_func ?_⟩
  let X := cxOf CX0 P w K mg base r.N r.x (defScope r.st) f cdv A outer s H (fun _ _ _ => False)
  have I : Inv X [] (L2.start r.N vs) H s1 := inv_start S room.hd e0 hl r1 x
  have G : Good (T.ctx r) n X.nox := {
    N := rfl
    nd := S.nd
    sc := rfl
    calm := rfl
    room := room.deeper _
    guards := hg
    fn := fun _ _ => rfl
    kind := S.kind
    xe := rfl
    gl := F.gl
    blt := F.blt
    fns := fun j y ps hj => by
      have hj' : (T.rows.map fun r => (r.x, r.ps))[j]? = some (y, ps) := hj
      rw [List.getElem?_map] at hj'
      obtain ⟨r', h1, h2⟩ := map_some hj'
      cases h2
      obtain ⟨f', fd', L'⟩ := F.live r' (List.mem_of_getElem? h1)
      exact ⟨f', fd', L'.mgx, L'.fn.kp, L'.binds, IH j r' f' fd' h1 L'⟩ }
  have fin : ∀ {s' : Shared} {fl' : Flow}, SP X.nox [] { nx := fun σ' H' => Q .non H', rt := fun v H' => Q v H' } fl' s' → ∃ u, (Except.ok (Flow.ret (match fl' with | .ret v => v | _ => .none)) : Result) = .ok (.ret u) ∧ CE outer P w H s Q u s' := fun {s' fl'} hs => by
    cases fl' with
    | ret u =>
      obtain ⟨v, σ', H', J, rv', q'⟩ := hs
      exact ⟨u, rfl, v, H', J.os, J.bare, J.base, J.hok, rv', q'⟩
    | next =>
      obtain ⟨σ', H', J, q'⟩ := hs
      exact ⟨.none, rfl, .non, H', J.os, J.bare, J.base, J.hok, rfl, q'⟩
    | brk =>
      obtain ⟨_, _, _, q'⟩ := hs
      exact False.elim q'
    | cont =>
      obtain ⟨_, _, _, q'⟩ := hs
      exact False.elim q'
  have run := hr.sim (D := { nx := fun σ' H' => Q .non H', rt := fun v H' => Q v H' }) G e2 (start_env rv hlen) rp (fun env' σ' ρ' H' ef g re => by
      subst ef
      simp only [RP.fin] at hrun
      cases hrun
      exact q _ ρ' H' g.trim .non) (fun d' v ρ' H' ef g rr => by
      subst ef
      simp only [RP.fin] at hrun
      cases hrun
      exact q _ ρ' H' g.trim (rr.trim g.len (Nat.le_refl _))) [] s1 (I.wish _)
  exact wpAny_mono run (fun fl' s' hs => fin hs) fun e s' hs => False.elim hs
theorem fg_all {T : Tab} (F : Facts T K mg) : ∀ (n k : Nat) (r : Row) (f : Addr) (fd : FuncData), T.rows[k]? = some r → Live K mg r f fd → FG P w K mg base n f fd r.ps (callN T.gl T.P n k)
  | 0, k, r, f, fd, _, _ => fun _ _ _ _ _ _ _ _ _ _ _ _ _ _ _ _ _ _ _ _ _ h => by simp [callN] at h
  | n + 1, k, r, f, fd, hk, Lv => fg_step F (fg_all F n) hk Lv
end RP

namespace RP
open PySem PySem.Spec PyProof.Rows L2

theorem rvs_ints {K : PySem.W.Frag} {ρ : Nat → Addr} {L : Nat} {H : Hp} : ∀ ns : List Int, RVs K ρ L H (ns.map D.int) (ns.map V.int)
  | [] => .nil
  | n :: r => .cons (.int n) (rvs_ints r)

/-- the law's own call, at the heap behind the top -/
theorem law_run {P : Program} {w : World} {K : PySem.W.Frag} {mg mb : Str → Option Value} {T : Tab} {r : Row} {kL N : Nat} {fa a : Addr} {fd : FuncData} {x : Str} {t : Shared} {vs : List Value} {ns : List Int}
    (KX : K.In t.heap) (hns : t.heap.Ns mainGlobals mg) (hb : t.heap.Ns builtinsNs mb) (hbb : ∀ x : Str, x ≠ "__name__" → mb x = bootBuiltins x) (hlim : t.heap.NoLimit) (hg : t.gens = #[])
    (ha : t.heap.get? a = some { cls := .type "list", data := .seq vs.toArray }) (hi : IntsAre vs ns) (hl : ns.length ≤ sizeLine) (hr : Room N callerA)
    (F : Facts T K mg) (hk : T.rows[kL]? = some r) (hp : r.ps = [x]) (Lv : Live K mg r fa fd) (hbind : ∀ (s : Shared) (u : Value), BindsTo s fd ⟨[u], []⟩ [(x, u)])
    (tr : ∃ st', callN T.gl T.P N kL [.ref 0] [.fro (ns.map D.int)] = .ok (.bl true) st') :
    codeAny (model P w) callerA (.call (.ref fa) ⟨[.ref a], []⟩) (fun r s' => r = .ok (.ret (.bool true)) ∧ OldK t.heap s'.heap ∧ s'.os = t.os ∧ AllBare s'.gens) t := by
  obtain ⟨st', tr⟩ := tr
  have rv := vals_ints hi
  have main : ∀ H : Hp, Only H → Fro K H a (ns.map V.int) → HOk P w H t.heap → (∀ b, H b ≠ none → b = a) → (H a ≠ none → K.lookup a = none) →
      codeAny (model P w) callerA (.call (.ref fa) ⟨[.ref a], []⟩) (fun r s' => r = .ok (.ret (.bool true)) ∧ OldK t.heap s'.heap ∧ s'.os = t.os ∧ AllBare s'.gens) t := by
    intro H hO hS hok hA hK
    have off : ∀ {b : Addr} {o : Obj} {es : Array DictEntry} {ep : Nat}, t.heap.get? b = some o → o.data = .dict es ep → H b = none := fun {b o es ep} e d => by
      by_cases q : H b = none
      · exact q
      · obtain rfl := hA b q
        rw [ha] at e; cases e; cases d
    have nsB : ∀ {b : Addr} {m : Str → Option Value}, t.heap.Ns b m → (hidT t.heap H).Ns b m := fun {b m} ⟨o, es, ep, e, d, z⟩ => ⟨o, es, ep, hidT_get e (off e d), d, z⟩
    have kB : K.In (hidT t.heap H) := fun b o e => hidT_get (KX b o e) (by
      by_cases q : H b = none
      · exact q
      · obtain rfl := hA b q
        rw [hK q] at e; cases e)
    have M : Mod K mg (hidT t.heap H) := ⟨kB, nsB hns, ⟨mb, nsB hb, hbb⟩, let ⟨mc, h1, h2⟩ := hlim; ⟨mc, nsB h1, h2⟩⟩
    have e0 : Env0 P w K mg (hidT t.heap H) callerA [] t H := ⟨rfl, M, fun b o e => of_hidT e, Nat.le_of_eq (hidT_size _ _), trivial, fun b hb => absurd (show b ∈ ([] : List Addr) from hb) (by simp), hok, .of_eq hg⟩
    have rp : Rep K (fun _ => a) H [.fro (ns.map D.int)] := by
      refine ⟨fun m n xs ys h1 _ _ => ?_, fun n xs h1 => ?_, fun n xs h1 => ?_⟩
      · cases m with
        | zero => simp at h1
        | succ m => simp at h1
      · cases n with
        | zero => simp at h1
        | succ m => simp at h1
      · cases n with
        | zero => simp at h1; subst h1; exact ⟨_, hS, rvs_ints ns⟩
        | succ m => simp at h1
    have run := fg_all (P := P) (w := w) (base := hidT t.heap H) F N kL r fa fd hk Lv callerA [] t H ⟨[.ref a], []⟩ [.ref a] [.ref a] [.ref 0] [.fro (ns.map D.int)] (fun _ => a) (fun v _ => v = .bl true) (.bl true) st' hr rfl e0
      (by rw [hp]; exact hbind t (.ref a)) (.cons rfl .nil) (by rw [hp]; rfl) (.cons (.ref (by simp)) .nil) rp tr (fun v ρ' H' _ z => by cases z; rfl)
    refine codeAny_mono run fun res s' h => ?_
    obtain ⟨u, rfl, v, H', os, bare, un, hok', r', q⟩ := h
    subst q
    obtain rfl : u = Value.bool true := r'
    refine ⟨rfl, OldK.of_keep fun b o e => ?_, os, bare⟩
    cases q : H b with
    | none => exact un.keep b o e q (fun z => absurd (show b ∈ ([] : List Addr) from z) (by simp)) (by simp)
    | some y =>
      rcases hO b with z | ⟨ob, xs, z⟩
      · rw [q] at z; cases z
      · obtain ⟨e1, _⟩ := hok b _ z
        obtain ⟨e2, _⟩ := hok' b _ (un.frzs b ob _ z)
        rw [e] at e1; cases e1
        exact e2
  cases hka : K.lookup a with
  | some o =>
    have e := KX a o hka
    rw [ha] at e
    cases e
    exact main (fun _ => none) (fun _ => .inl rfl) (.inr ⟨_, vs.toArray, _, hka, rfl, rfl, rfl, by rw [List.size_toArray, hi.length]; exact hl, by simpa using rv⟩) (fun b u z => nomatch (show (none : Option HO) = some u from z)) (fun b z => absurd rfl z) fun z => absurd rfl z
  | none =>
    refine main (fun b => if b = a then some (.frz { cls := .type "list", data := .seq vs.toArray } (.lst (ns.map V.int))) else none) (fun b => ?_) (.inl ⟨{ cls := .type "list", data := .seq vs.toArray }, if_pos rfl⟩) (fun b u z => ?_) (fun b z => ?_) fun _ => hka
    all_goals by_cases hb : b = a
    · exact .inr ⟨_, _, if_pos hb⟩
    · exact .inl (if_neg hb)
    · cases (if_pos hb).symm.trans z
      subst hb
      exact ⟨ha, by rw [List.length_map]; exact hl, vs, _, rv, ha⟩
    · cases (if_neg hb).symm.trans z
    · exact hb
    · exact absurd (if_neg hb) z

theorem walk_rp {l : PySem.W.OpenLaw} {n N kL : Nat} {q : Program} {loose : List Str} {XP : (Str → Option Value) → Heap → Prop} {YP : World → Heap → Prop} {d : DefRec} {K : Params → PySem.W.Frag} {T : Tab} {r : Row} {x : Str}
    (hn : l.most = some n) (hn2 : n ≤ sizeLine) (hdf : d.params.defaults = []) (hr : Room N callerA) (hY : ∀ (w : World) (h : Heap), YP w h → (K w.params).In h) (hk : T.rows[kL]? = some r) (hp : r.ps = [x]) (hx : r.x = d.name)
    (F : ∀ (w : World) (mg : Str → Option Value) (h : Heap), (K w.params).In h → h.Ns mainGlobals mg → XP mg h → Facts T (K w.params) mg)
    (hb : ∀ (K : PySem.W.Frag) (f : Addr) (fd : FuncData), Fun K r.x r.x r.st f fd → ∀ (s : Shared) (u : Value), BindsTo s fd ⟨[u], []⟩ [(x, u)])
    (tr : ∀ ns : List Int, ns.length ≤ n → ∃ st', callN T.gl T.P N kL [.ref 0] [.fro (ns.map D.int)] = .ok (.bl true) st') :
    PySem.W.WalkO q loose XP YP l.row.toRowW d [] (fun f vs => PySem.call f vs) := by
  refine Att.attach_call hn hdf fun w s₀ s₁ mg mb fa o pm cd doc a vs ns G Y ho hd hcd hmg hobj hints hlen hg => ?_
  have KX := hY w _ Y
  have FF := F w mg _ KX G.T.g G.X
  obtain ⟨f, fd, Lv⟩ := FF.live r (List.mem_of_getElem? hk)
  have e : f = fa := by
    have z := Lv.mgx
    rw [hx, hmg] at z
    exact (Value.ref.inj (Option.some.inj z)).symm
  subst e
  exact law_run KX G.T.g G.T.b G.T.builtins G.T.nolimit hg hobj hints (Nat.le_trans hlen hn2) hr FF hk hp Lv (hb _ _ _ Lv.fn) (tr ns hlen)
end RP

namespace RP
open PySem L2

def ixOf : (l : List Str) → (x : Str) → Option {i : Nat // l[i]? = some x}
  | [], _ => none
  | y :: l, x => if h : y = x then some ⟨0, by rw [h]; rfl⟩ else match ixOf l x with
    | some ⟨i, hi⟩ => some ⟨i + 1, by simpa using hi⟩
    | none => none
def ixGl : (l : List (Str × D)) → (x : Str) → Option {p : Nat × D // l[p.1]? = some (x, p.2)}
  | [], _ => none
  | (y, d) :: l, x => if h : y = x then some ⟨(0, d), by rw [h]; rfl⟩ else match ixGl l x with
    | some ⟨p, hi⟩ => some ⟨(p.1 + 1, p.2), by simpa using hi⟩
    | none => none
def ixFn : (l : List (Str × List Str)) → (x : Str) → Option {p : Nat × List Str // l[p.1]? = some (x, p.2)}
  | [], _ => none
  | (y, d) :: l, x => if h : y = x then some ⟨(0, d), by rw [h]; rfl⟩ else match ixFn l x with
    | some ⟨p, hi⟩ => some ⟨(p.1 + 1, p.2), by simpa using hi⟩
    | none => none
def binOf : (o : Operator) → Option {b : Bin // b.op = o}
  | .Add => some ⟨.add, rfl⟩
  | .Sub => some ⟨.sub, rfl⟩
  | .Mult => some ⟨.mul, rfl⟩
  | .FloorDiv => some ⟨.fdiv, rfl⟩
  | .Mod => some ⟨.mod, rfl⟩
  | .Pow => some ⟨.pow, rfl⟩
  | _ => none
def cmpOf : (o : CmpOp) → Option {b : Cmp // b.op = o}
  | .Lt => some ⟨.lt, rfl⟩
  | .LtE => some ⟨.le, rfl⟩
  | .Gt => some ⟨.gt, rfl⟩
  | .GtE => some ⟨.ge, rfl⟩
  | .Eq => some ⟨.eq, rfl⟩
  | .NotEq => some ⟨.ne, rfl⟩
  | .Is => some ⟨.isN, rfl⟩
  | .IsNot => some ⟨.notN, rfl⟩
  | .In => some ⟨.isin, rfl⟩
  | .NotIn => some ⟨.notin, rfl⟩
def allBi : List Bi := [.len, .sum, .abs, .max, .min, .int, .tuple, .list, .repr, .all, .any, .sorted, .str, .bool]
def biOf (x : Str) : List Bi → Option {b : Bi // b.nm = x}
  | [] => none
  | b :: r => if h : b.nm = x then some ⟨b, h⟩ else biOf x r
def allTy : List Ty := [.int, .bool, .tuple, .str, .list, .dict]
def tyOf (x : Str) : List Ty → Option {b : Ty // b.nm = x}
  | [] => none
  | b :: r => if h : b.nm = x then some ⟨b, h⟩ else tyOf x r

def esLen : Es → Nat
  | .nil => 0
  | .cons _ is => esLen is + 1
theorem evs_len {gl : List D} {cf : CallF} {env : Env} : ∀ {is : Es} {st : Sto} {ds : List D} {st' : Sto} {m : Nat}, evs gl cf is env st = .ok ds st' → esLen is = m → ds.length = m
  | .nil, st, ds, st', m, h, e => by
    have h' : Res.ok [] st = Res.ok ds st' := by simpa [evs] using h
    cases h'; cases e; rfl
  | .cons i is, st, ds, st', m, h, e => by
    simp only [evs] at h
    obtain ⟨x, s1, e1, h⟩ := Res.bind_eq_ok h
    obtain ⟨xs, s2, e2, h⟩ := Res.bind_eq_ok h
    cases h
    cases e
    simp [evs_len e2 rfl, esLen]

/-- an expression that never gives None -/
def intE : E → Bool
  | .k (.int _) => true
  | .bin _ _ _ => true
  | .neg _ => true
  | .bi .len _ => true
  | _ => false
theorem bin_ne {o : Bin} {x y d : D} {st st' : Sto} (h : bin o x y st = .ok d st') : d ≠ .non := by
  intro e
  subst e
  unfold bin at h
  repeat' split at h
  all_goals cases h
theorem len_ne {xs : List D} {d : D} {st st' : Sto} (h : bi .len xs st = .ok d st') : d ≠ .non := by
  intro e
  subst e
  unfold bi at h
  repeat' split at h
  all_goals first | (cases h; done) | (rename_i q; cases q; done) | (rename_i q _; cases q; done) | contradiction
theorem intE_ne {i : E} (hi : intE i = true) {gl : List D} {cf : CallF} {env : Env} {st : Sto} {d : D} {st' : Sto} (h : ev gl cf i env st = .ok d st') : d ≠ .non := by
  unfold intE at hi
  split at hi
  · simp only [ev] at h; cases h; intro z; cases z
  · simp only [ev] at h
    obtain ⟨_, _, _, h⟩ := Res.bind_eq_ok h
    obtain ⟨_, _, _, h⟩ := Res.bind_eq_ok h
    exact bin_ne h
  · simp only [ev] at h
    obtain ⟨x, _, _, h⟩ := Res.bind_eq_ok h
    unfold negD at h
    split at h
    · cases h; intro z; cases z
    · cases h
  · simp only [ev] at h
    obtain ⟨_, _, _, h⟩ := Res.bind_eq_ok h
    exact len_ne h
  · cases hi
/-- which kind of name -/
def isGlob (Γ : Ctx) (x : Str) : Bool := decide (Γ.sc.names.lookup x = some .globalImplicit)
def visB (Γ : Ctx) (x : Str) : Bool := decide (Γ.sc.names.lookup x = some .local ∨ Γ.sc.names.lookup x = some .cell ∨ Γ.sc.names.lookup x = some .free)
theorem visB.of {Γ : Ctx} {x : Str} (h : visB Γ x = true) : Vis Γ.sc x := by
  unfold visB at h
  simpa [Vis] using h
def ownB (Γ : Ctx) (x : Str) : Bool := decide (Γ.sc.names.lookup x = some .local ∨ (Γ.sc.names.lookup x = some .cell ∧ Γ.cel x = true))
theorem ownB.of {Γ : Ctx} {x : Str} (h : ownB Γ x = true) : Own Γ x := by
  unfold ownB at h
  simpa [Own] using h
def plainNm (x : Str) : Bool := !(x == ("__debug__" : Str)) && !(x == ("__classdict__" : Str))

mutual
def compE : Nat → (Γ : Ctx) → (e : Expr) → Option {i : E // SimE Γ e i}
  | 0, _, _ => none
  | m + 1, Γ, e => match e with
    | .Name x pos => if hp : plainNm x = true then
        if hv : visB Γ x = true then match ixOf Γ.N x with
          | some ⟨i, hi⟩ => some ⟨.v i, sim_v hi (visB.of hv) (by simp [plainNm] at hp; simp [hp]) (by simp [plainNm] at hp; simp [hp])⟩
          | none => none
        else if hg : isGlob Γ x = true then match ixGl Γ.gls x with
          | some ⟨p, hi⟩ => some ⟨.g p.1, sim_g hi (of_decide_eq_true hg) (by simp [plainNm] at hp; simp [hp])⟩
          | none => none
        else none
      else none
    | .Constant (.int i) j pos => some ⟨_, sim_int⟩
    | .Constant (.bool i) j pos => some ⟨_, sim_bl⟩
    | .Constant (.str i) j pos => some ⟨_, sim_str⟩
    | .Constant .none j pos => some ⟨_, sim_non⟩
    | .Tuple es k pos => match compA m Γ es with
      | some ⟨i, h⟩ => some ⟨_, sim_tup h⟩
      | none => none
    | .List es pos => match compA m Γ es with
      | some ⟨i, h⟩ => some ⟨_, sim_lst h⟩
      | none => none
    | .BinOp a o b pos => match binOf o with
      | some ⟨o', ho⟩ => match compE m Γ a with
        | some ⟨i, h1⟩ => match compE m Γ b with
          | some ⟨j, h2⟩ => some ⟨.bin o' i j, ho ▸ sim_bin h1 h2⟩
          | none => none
        | none => none
      | none => none
    | .UnaryOp .USub a pos => match compE m Γ a with
      | some ⟨i, h1⟩ => some ⟨_, sim_neg h1⟩
      | none => none
    | .UnaryOp .Not a pos => match compE m Γ a with
      | some ⟨i, h1⟩ => some ⟨_, sim_not h1⟩
      | none => none
    | .Compare a [o] [b] pos => match cmpOf o with
      | some ⟨o', ho⟩ => if hn : nset b = true then match compE m Γ a with
        | some ⟨i, h1⟩ => match compE m Γ b with
          | some ⟨j, h2⟩ => some ⟨.cmp o' i j, ho ▸ sim_cmp hn h1 h2⟩
          | none => none
        | none => none
        else none
      | none => none
    | .Compare a [o, p] [b, c] pos => match cmpOf o with
      | some ⟨o', ho⟩ => match cmpOf p with
        | some ⟨p', hp⟩ => if hn : nset c = true then match compE m Γ a with
          | some ⟨i, h1⟩ => match compE m Γ b with
            | some ⟨j, h2⟩ => match compE m Γ c with
              | some ⟨k, h3⟩ => some ⟨.chain o' p' i j k, ho ▸ hp ▸ sim_chain hn h1 h2 h3⟩
              | none => none
            | none => none
          | none => none
          else none
        | none => none
      | none => none
    | .BoolOp op [a] pos => match compE m Γ a with
      | some ⟨i, h1⟩ => some ⟨i, sim_one h1⟩
      | none => none
    | .BoolOp .And (a :: b :: r) pos => match compE m Γ a with
      | some ⟨i, h1⟩ => match compE m Γ (.BoolOp .And (b :: r) pos) with
        | some ⟨j, h2⟩ => some ⟨.and i j, sim_and h1 h2⟩
        | none => none
      | none => none
    | .BoolOp .Or (a :: b :: r) pos => match compE m Γ a with
      | some ⟨i, h1⟩ => match compE m Γ (.BoolOp .Or (b :: r) pos) with
        | some ⟨j, h2⟩ => some ⟨.or i j, sim_or h1 h2⟩
        | none => none
      | none => none
    | .IfExp c a b pos => match compT m Γ c with
      | some ⟨k, h0⟩ => match compE m Γ a with
        | some ⟨i, h1⟩ => match compE m Γ b with
          | some ⟨j, h2⟩ => some ⟨.ife k i j, sim_ife h0 h1 h2⟩
          | none => none
        | none => none
      | none => none
    | .Subscript a (.Slice none none (some (.UnaryOp .USub (.Constant (.int 1) k p1) p2)) p3) pos => match compE m Γ a with
      | some ⟨i, h1⟩ => some ⟨.rev i, sim_rev h1⟩
      | none => none
    | .Subscript a (.Slice lo hi none p2) pos => match compE m Γ a with
      | some ⟨i, h1⟩ => match compO m Γ lo with
        | some ⟨j, h2⟩ => match compO m Γ hi with
          | some ⟨k, h3⟩ => some ⟨.sl i j k, sim_slice h1 h2.1 h3.1 h2.2 h3.2⟩
          | none => none
        | none => none
      | none => none
    | .Subscript a b pos => if hb : nslice b = true then match compE m Γ a with
        | some ⟨i, h1⟩ => match compE m Γ b with
          | some ⟨j, h2⟩ => some ⟨.ix i j, sim_ix hb h1 h2⟩
          | none => none
        | none => none
      else none
    | .ListComp elt [⟨tg, iter, ifs, 0⟩] scope pos => match compC m Γ elt tg iter ifs scope with
      | some ⟨(t, it, c, e, own), h⟩ => some ⟨.comp t it c e, sim_comp h.1 h.2.1 h.2.2.1 h.2.2.2.1 h.2.2.2.2.1 h.2.2.2.2.2.1 h.2.2.2.2.2.2⟩
      | none => none
    | .Call (.Attribute o "append" apos) [e] [] cpos => if ho : attrB o = true then if hl : (apos.endLine == cpos.line) = true then if he : star e = false then match compE m Γ o with
        | some ⟨i, h1⟩ => match compE m Γ e with
          | some ⟨j, h2⟩ => some ⟨_, sim_append ho hl he h1 h2⟩
          | none => none
        | none => none
        else none else none else none
    | .Call (.Attribute o "extend" apos) [e] [] cpos => if ho : attrB o = true then if hl : (apos.endLine == cpos.line) = true then if he : star e = false then match compE m Γ o with
        | some ⟨i, h1⟩ => match compE m Γ e with
          | some ⟨j, h2⟩ => some ⟨_, sim_extend ho hl he h1 h2⟩
          | none => none
        | none => none
        else none else none else none
    | .Call (.Name x p) (e :: es) [] pos => if hg : isGlob Γ x = true then if hn : (e :: es).all (fun e => !star e) = true then
          match ixFn Γ.fns x with
          | some ⟨(k, ps), hk⟩ => if hd : (x == ("__debug__" : Str)) = false then if hl : (e :: es).length = ps.length then match compA m Γ (e :: es) with
              | some ⟨is, h1⟩ => if hz : esLen is = (e :: es).length then some ⟨.call k is, sim_call hk (of_decide_eq_true hg) hd hl hn h1 (fun h em => evs_len h (hz.trans em.symm))⟩ else none
              | none => none
              else none else none
          | none => match biOf x allBi with
            | some ⟨b, hb⟩ => if hm : b.nm ∈ Γ.bs then match compA m Γ (e :: es) with
                | some ⟨is, h1⟩ => some ⟨.bi b is, hb ▸ sim_bi (by rw [hb]; exact of_decide_eq_true hg) hm hn h1⟩
                | none => none
              else none
            | none => match es with
              | [.Name y p2] => if hx : x = ("isinstance" : Str) then match tyOf y allTy with
                  | some ⟨t, ht⟩ => if hy : isGlob Γ y = true then if hm : ("isinstance" : Str) ∈ Γ.bs then if hm2 : t.nm ∈ Γ.bs then if he : star e = false then match compE m Γ e with
                      | some ⟨i, h1⟩ => some ⟨.isi i t, by subst hx; subst ht; exact sim_isi he (of_decide_eq_true hg) hm (of_decide_eq_true hy) hm2 h1⟩
                      | none => none
                      else none else none else none else none
                  | none => none
                else none
              | _ => none
        else none else none
    | _ => none
def compO : Nat → (Γ : Ctx) → (o : Option Expr) → Option {i : E // SimO Γ o i ∧ ∀ {gl cf env st d st'}, ev gl cf i env st = .ok d st' → o ≠ none → d ≠ .non}
  | 0, _, _ => none
  | m + 1, Γ, none => some ⟨.k .non, .inl ⟨rfl, rfl⟩, fun _ h => absurd rfl h⟩
  | m + 1, Γ, some e => match compE m Γ e with
    | some ⟨i, h⟩ => if hi : intE i = true then some ⟨i, .inr ⟨e, rfl, h⟩, fun he _ => intE_ne hi he⟩ else none
    | none => none
def compT : Nat → (Γ : Ctx) → (e : Expr) → Option {i : E // SimT Γ e i}
  | 0, _, _ => none
  | m + 1, Γ, e => match e with
    | .Compare a [o] [b] pos => match cmpOf o with
      | some ⟨o', ho⟩ => if hn : nset b = true then match compE m Γ a with
        | some ⟨i, h1⟩ => match compE m Γ b with
          | some ⟨j, h2⟩ => some ⟨.cmp o' i j, ho ▸ test_cmp hn h1 h2⟩
          | none => none
        | none => none
        else none
      | none => none
    | .Compare a [o, p] [b, c] pos => match cmpOf o with
      | some ⟨o', ho⟩ => match cmpOf p with
        | some ⟨p', hp⟩ => if hn : nset c = true then match compE m Γ a with
          | some ⟨i, h1⟩ => match compE m Γ b with
            | some ⟨j, h2⟩ => match compE m Γ c with
              | some ⟨k, h3⟩ => some ⟨.chain o' p' i j k, ho ▸ hp ▸ test_chain hn h1 h2 h3⟩
              | none => none
            | none => none
          | none => none
          else none
        | none => none
      | none => none
    | .UnaryOp .Not a pos => match compT m Γ a with
      | some ⟨i, h1⟩ => some ⟨_, test_not h1⟩
      | none => none
    | .BoolOp op [a] pos => match compT m Γ a with
      | some ⟨i, h1⟩ => some ⟨i, test_one h1⟩
      | none => none
    | .BoolOp .And (a :: b :: r) pos => match compT m Γ a with
      | some ⟨i, h1⟩ => match compT m Γ (.BoolOp .And (b :: r) pos) with
        | some ⟨j, h2⟩ => some ⟨.and i j, test_and h1 h2⟩
        | none => none
      | none => none
    | .BoolOp .Or (a :: b :: r) pos => match compT m Γ a with
      | some ⟨i, h1⟩ => match compT m Γ (.BoolOp .Or (b :: r) pos) with
        | some ⟨j, h2⟩ => some ⟨.or i j, test_or h1 h2⟩
        | none => none
      | none => none
    | e => if hp : plainT e = true then match compE m Γ e with
        | some ⟨i, h1⟩ => some ⟨i, test_plain hp h1⟩
        | none => none
      else none
def compA : Nat → (Γ : Ctx) → (es : List Expr) → Option {i : Es // SimA Γ es i}
  | 0, _, _ => none
  | m + 1, Γ, [] => some ⟨.nil, sim_nil⟩
  | m + 1, Γ, e :: es => if hs : star e = false then match compE m Γ e with
      | some ⟨i, h1⟩ => match compA m Γ es with
        | some ⟨is, h2⟩ => some ⟨.cons i is, sim_cons hs h1 h2⟩
        | none => none
      | none => none
    else none
def compI : Nat → (Γ : Ctx) → (tg iter : Expr) → Option {i : It // SimI Γ tg iter i}
  | 0, _, _, _ => none
  | m + 1, Γ, tg, iter => match iter with
    | .Call (.Name "range" p) [a] [] pos => if hg : isGlob Γ "range" = true then if hm : ("range" : Str) ∈ Γ.bs then if ha : star a = false then match compE m Γ a with
        | some ⟨i, h1⟩ => some ⟨_, iter_rng1 ha (of_decide_eq_true hg) hm h1⟩
        | none => none
        else none else none else none
    | .Call (.Name "range" p) [a, b] [] pos => if hg : isGlob Γ "range" = true then if hm : ("range" : Str) ∈ Γ.bs then if ha : star a = false then if hb : star b = false then match compE m Γ a with
        | some ⟨i, h1⟩ => match compE m Γ b with
          | some ⟨j, h2⟩ => some ⟨_, iter_rng2 ha hb (of_decide_eq_true hg) hm h1 h2⟩
          | none => none
        | none => none
        else none else none else none else none
    | .Call (.Name "enumerate" p) [a] [] pos => match tg with
      | .Tuple elts kk tpos => if hg : isGlob Γ "enumerate" = true then if hm : ("enumerate" : Str) ∈ Γ.bs then if ha : star a = false then match compE m Γ a with
        | some ⟨i, h1⟩ => some ⟨_, iter_enum ha (of_decide_eq_true hg) hm h1⟩
        | none => none
        else none else none else none
      | _ => none
    | e => match compE m Γ e with
      | some ⟨i, h1⟩ => some ⟨.seq i, iter_seq h1⟩
      | none => none
def compG : Nat → (Γ : Ctx) → (tg : Expr) → Option {i : Tg // SimG Γ tg i}
  | 0, _, _ => none
  | m + 1, Γ, tg => match tg with
    | .Name x pos => if ho : ownB Γ x = true then match ixOf Γ.N x with
        | some ⟨i, hi⟩ => some ⟨.nm i, tg_nm hi (ownB.of ho)⟩
        | none => none
      else none
    | .Tuple [a, b] k pos => if ha : star a = false then if hb : star b = false then match compG m Γ a with
        | some ⟨i, h1⟩ => match compG m Γ b with
          | some ⟨j, h2⟩ => some ⟨_, tg_two ha hb h1 h2⟩
          | none => none
        | none => none
        else none else none
    | .Subscript a b pos => if hb : nslice b = true then match compE m Γ a with
        | some ⟨i, h1⟩ => match compE m Γ b with
          | some ⟨j, h2⟩ => some ⟨_, tg_sub hb h1 h2⟩
          | none => none
        | none => none
      else none
    | _ => none
def compC : Nat → (Γ : Ctx) → (elt tg iter : Expr) → (ifs : List Expr) → (scope : Scope) → Option {p : Tg × It × E × E × List (Str × Nat) // BlkOk Γ.N Γ.sc scope p.2.2.2.2 ∧ p.2.2.2.2.map (·.2) = p.1.slots ∧ nset iter = true ∧ SimI Γ tg iter p.2.1 ∧ SimG (Γ.blk scope) tg p.1 ∧ SimTs (Γ.blk scope) ifs p.2.2.1 ∧ SimE (Γ.blk scope) elt p.2.2.2.1}
  | 0, _, _, _, _, _, _ => none
  | m + 1, Γ, elt, tg, iter, ifs, scope => if hn : nset iter = true then match compI m Γ tg iter with
    | some ⟨it, h1⟩ => match compG m (Γ.blk scope) tg with
      | some ⟨t, h2⟩ => match compTs m (Γ.blk scope) ifs with
        | some ⟨c, h3⟩ => match compE m (Γ.blk scope) elt with
          | some ⟨e, h4⟩ =>
            let own : List (Str × Nat) := t.slots.filterMap fun i => (Γ.N[i]?).map (·, i)
            if hb : blkC Γ.N Γ.sc scope own = true then if ho : own.map (·.2) = t.slots then some ⟨(t, it, c, e, own), blkOk_by hb, ho, hn, h1, h2, h3, h4⟩ else none else none
          | none => none
        | none => none
      | none => none
    | none => none
    else none
def compTs : Nat → (Γ : Ctx) → (ifs : List Expr) → Option {c : E // SimTs Γ ifs c}
  | 0, _, _ => none
  | m + 1, Γ, ifs => match ifs with
    | [] => some ⟨.k (.bl true), .inl ⟨rfl, rfl⟩⟩
    | [e] => match compT m Γ e with
      | some ⟨i, h⟩ => some ⟨i, .inr ⟨e, rfl, h⟩⟩
      | none => none
    | _ => none
end
end RP

namespace RP
open PySem L2

theorem block_fn {env : PySem.Env} {sc : Scope} (hs : env.scope = sc) (hk : sc.kind = .function) : env.blockKind = .function := by
  unfold PySem.Env.blockKind; rw [hs, hk]; rfl
theorem stores_fold {t : Expr} {a b : Expr} {k2 : Nat} {pt2 : Pos} (hf : ([a, b].all (foldedForSure 8)) = true) (env : PySem.Env) : swappedStores [t] (.Tuple [a, b] k2 pt2) env = pure none := by
  unfold swappedStores
  cases t <;> try rfl
  all_goals
    simp only []
    repeat' split
    all_goals first | rfl | (simp_all; done)
theorem stores_some {x y : Str} {px py pt pt2 : Pos} {kt k2 : Nat} {a b : Expr} {sc : Scope} (hk : sc.kind = .function) (hx : sc.names.lookup x = some .local) (hy : sc.names.lookup y = some .local) (hl : (py.line == px.line) = true) (hne : x ≠ y) (ha : star a = false) (hb : star b = false)
    (hf : ([a, b].all (foldedForSure 8)) = false) (hc : ([a, b].all (constantsAlone 8)) = false) (env : PySem.Env) (hs : env.scope = sc) : swappedStores [.Tuple [.Name x px, .Name y py] kt pt] (.Tuple [a, b] k2 pt2) env = pure (some [x, y]) := by
  have hbk := block_fn hs hk
  have kx : env.kindOf x = some .local := by show env.scope.names.lookup x = _; rw [hs]; exact hx
  have ky : env.kindOf y = some .local := by show env.scope.names.lookup y = _; rw [hs]; exact hy
  have hd : ([x, y] : List Str).eraseDups.length = 2 := by
    have e1 : (y == x) = false := by simpa using fun z => hne z.symm
    have e2 : (x == y) = false := by simpa using hne
    simp [List.eraseDups_cons, List.filter, e1, e2]
  have hl' : py.line = px.line := by simpa using hl
  unfold swappedStores
  simp only [List.length_cons, List.length_nil, hbk, List.any_cons, List.any_nil, List.head?_cons, Option.map_some, Option.getD_some, List.filterMap_cons, List.filterMap_nil, kx, ky, hl', hf, hc, Expr.pos]
  simp [hd]
  intro z
  exfalso
  rcases z with z | z
  · cases a <;> first | (cases z; done) | cases ha
  · cases b <;> first | (cases z; done) | cases hb

mutual
def compS : Nat → (Γ : Ctx) → (c : Stmt) → Option {i : S // SimS Γ c i}
  | 0, _, _ => none
  | m + 1, Γ, c => match c with
    | .Pass pos => some ⟨_, s_skip⟩
    | .Expr e pos => if hc : ncomp e = true then match compE m Γ e with
        | some ⟨i, h⟩ => some ⟨_, s_ex hc h⟩
        | none => none
      else none
    | .Return (some e) pos => match compE m Γ e with
      | some ⟨i, h⟩ => some ⟨_, s_ret h⟩
      | none => none
    | .Return none pos => some ⟨_, s_retN⟩
    | .If c a b pos => match compT m Γ c with
      | some ⟨i, h0⟩ => match compSs m Γ a with
        | some ⟨x, h1⟩ => match compSs m Γ b with
          | some ⟨y, h2⟩ => some ⟨_, s_ife h0 h1 h2⟩
          | none => none
        | none => none
      | none => none
    | .For tg iter body [] pos => if hn : nset iter = true then match compI m Γ tg iter with
        | some ⟨it, h0⟩ => match compG m Γ tg with
          | some ⟨t, h1⟩ => match compSs m Γ body with
            | some ⟨b, h2⟩ => some ⟨_, s_for hn h0 h1 h2⟩
            | none => none
          | none => none
        | none => none
      else none
    | .AugAssign (.Name x p) o e pos => match binOf o with
      | some ⟨o', ho⟩ => if hx : ownB Γ x = true then match ixOf Γ.N x with
        | some ⟨i, hi⟩ => match compE m Γ e with
          | some ⟨j, h⟩ => some ⟨.aug i o' j, ho ▸ s_aug hi (ownB.of hx) h⟩
          | none => none
        | none => none
        else none
      | none => none
    | .Raise _ _ _ => some ⟨.never, s_never⟩
    | .Assign [.Name y py] (.ListComp elt [⟨tg, iter, ifs, 0⟩] scope pos) spos => if hyl : decide (Γ.sc.names.lookup y = some .local) = true then if hl : (py.line == pos.line) = true then if ha : (scope.names.any fun (n, k) => n == y && (k == .local || k == .cell)) = false then
        match ixOf Γ.N y with
        | some ⟨j, hj⟩ => match compC m Γ elt tg iter ifs scope with
          | some ⟨(t, it, c, e, own), h⟩ => some ⟨.asg (.nm j) (.comp t it c e), s_asgLc hj (of_decide_eq_true hyl) hl ha h.1 h.2.1 h.2.2.1 h.2.2.2.1 h.2.2.2.2.1 h.2.2.2.2.2.1 h.2.2.2.2.2.2⟩
          | none => none
        | none => none
      else none else none else none
    | .Assign [.Name y py] e pos => if hc : ncomp e = true then match compE m Γ e with
        | some ⟨i, h1⟩ => match compG m Γ (.Name y py) with
          | some ⟨t, h2⟩ => some ⟨_, s_asg rfl (fun env _ => stores_no2 env) hc h1 h2⟩
          | none => none
        | none => none
      else none
    | .Assign [.Subscript o k py] e pos => if hc : ncomp e = true then match compE m Γ e with
        | some ⟨i, h1⟩ => match compG m Γ (.Subscript o k py) with
          | some ⟨t, h2⟩ => some ⟨_, s_asg rfl (fun env _ => stores_no3 env) hc h1 h2⟩
          | none => none
        | none => none
      else none
    | .Assign [.Tuple [.Name x px, .Name y py] kt pt] (.Tuple [a, b] k2 pt2) pos => if hf : ([a, b].all (foldedForSure 8)) = true then match compE m Γ (.Tuple [a, b] k2 pt2) with
        | some ⟨i, h1⟩ => match compG m Γ (.Tuple [.Name x px, .Name y py] kt pt) with
          | some ⟨t, h2⟩ => some ⟨_, s_asg rfl (fun env _ => stores_fold hf env) rfl h1 h2⟩
          | none => none
        | none => none
      else if hc : ([a, b].all (constantsAlone 8)) = false then if hx : decide (Γ.sc.names.lookup x = some .local) = true then if hy : decide (Γ.sc.names.lookup y = some .local) = true then if hl : (py.line == px.line) = true then if hne : x ≠ y then
        if ha : star a = false then if hb : star b = false then if hk : decide (Γ.sc.kind = .function) = true then match ixOf Γ.N x with
          | some ⟨i, hi⟩ => match ixOf Γ.N y with
            | some ⟨j, hj⟩ => match compE m Γ a with
              | some ⟨k, h1⟩ => match compE m Γ b with
                | some ⟨l, h2⟩ => some ⟨.two i j k l, s_two hi hj (fun z => by subst z; rw [hi] at hj; exact hne (Option.some.inj hj)) (of_decide_eq_true hx) (of_decide_eq_true hy) (fun env hs => stores_some (of_decide_eq_true hk) (of_decide_eq_true hx) (of_decide_eq_true hy) hl hne ha hb (by simpa using hf) hc env hs) ha hb h1 h2⟩
                | none => none
              | none => none
            | none => none
          | none => none
        else none else none else none else none else none else none else none else none
    | .Assign [.Tuple es kt pt] e pos => if hc : ncomp e = true then if ht : ntup e = true then match compE m Γ e with
        | some ⟨i, h1⟩ => match compG m Γ (.Tuple es kt pt) with
          | some ⟨t, h2⟩ => some ⟨_, s_asg rfl (fun env _ => stores_no1 ht env) hc h1 h2⟩
          | none => none
        | none => none
      else none else none
    | _ => none
def compSs : Nat → (Γ : Ctx) → (cs : List Stmt) → Option {i : Ss // SimSs Γ cs i}
  | 0, _, _ => none
  | m + 1, Γ, [] => some ⟨.nil, sims_nil⟩
  | m + 1, Γ, c :: cs => match compS m Γ c with
    | some ⟨i, h1⟩ => match compSs m Γ cs with
      | some ⟨is, h2⟩ => some ⟨.cons i is, sims_cons h1 h2⟩
      | none => none
    | none => none
end

/-- the check of one def -/
theorem row_ok {T : Tab} {r : Row} (h : (compSs 60 (T.ctx r) (defBody r.st)).map (·.1) = some r.fd.body) (S : FnScope r.N r.ps (defScope r.st)) (h1 : r.fd.np = r.ps.length) (h2 : r.fd.nn = r.N.length) : RowOk T r := by
  refine ⟨S, ?_, h1, h2⟩
  obtain ⟨⟨i, hi⟩, _, e⟩ := map_some h
  cases e
  exact hi
end RP

namespace RP
open PySem L2

/-! ### constants of the module's top -/
mutual
inductive GV (K : PySem.W.Frag) : D → Value → Prop where
  | non : GV K .non .none
  | bl (b : Bool) : GV K (.bl b) (.bool b)
  | int (i : Int) (t : Tok) : GV K (.int i) (.int i t)
  | str (x : Str) (t : Tok) : GV K (.str x) (.str x t)
  | tup {a : Addr} {od : Option Addr} {us : List Value} {n : Nat} {sl : Array (Option Value)} {ds : List D} (lk : K.lookup a = some ⟨.type "tuple", od, .seq us.toArray n, sl⟩) (hz : us.length ≤ sizeLine) (r : GVs K ds us) : GV K (.tup ds) (.ref a)
inductive GVs (K : PySem.W.Frag) : List D → List Value → Prop where
  | nil : GVs K [] []
  | cons {d : D} {u : Value} {ds : List D} {us : List Value} : GV K d u → GVs K ds us → GVs K (d :: ds) (u :: us)
end
mutual
theorem GV.rv {K : PySem.W.Frag} : ∀ {d : D} {u : Value}, GV K d u → ∃ v, RelV v u ∧ ∀ ρ L H, RV K ρ L H d v
  | .non, _, .non => ⟨.non, rfl, fun _ _ _ => .non⟩
  | .bl _, _, .bl b => ⟨.bl b, rfl, fun _ _ _ => .bl b⟩
  | .int _, _, .int i t => ⟨.int i, ⟨t, rfl⟩, fun _ _ _ => .int i⟩
  | .str _, _, .str x t => ⟨.str x, ⟨t, rfl⟩, fun _ _ _ => .str x⟩
  | .tup _, _, .tup (a := a) (us := us) lk hz r => by
    obtain ⟨vs, h1, h2⟩ := GVs.rv r
    exact ⟨.ref a, rfl, fun ρ L H => .tup (.inr ⟨_, us.toArray, _, lk, rfl, rfl, by simpa using hz, by simpa using h1⟩) (h2 ρ L H)⟩
theorem GVs.rv {K : PySem.W.Frag} : ∀ {d : List D} {u : List Value}, GVs K d u → ∃ v, Vals v u ∧ ∀ ρ L H, RVs K ρ L H d v
  | [], _, .nil => ⟨[], .nil, fun _ _ _ => .nil⟩
  | _ :: _, _, .cons h r => by
    obtain ⟨v, h1, h2⟩ := GV.rv h
    obtain ⟨vs, h3, h4⟩ := GVs.rv r
    exact ⟨v :: vs, .cons h1 h3, fun ρ L H => .cons (h2 ρ L H) (h4 ρ L H)⟩
end
theorem gl_of_mem {gls : List (Str × D)} {K : PySem.W.Frag} {mg : Str → Option Value} (h : ∀ p ∈ gls, ∃ u, mg p.1 = some u ∧ GV K p.2 u) : ∀ (k : Nat) (x : Str) (d : D), gls[k]? = some (x, d) → ∃ v u, mg x = some u ∧ RelV v u ∧ ∀ ρ L H, RV K ρ L H d v := fun k x d e => by
  obtain ⟨u, h1, h2⟩ := h (x, d) (List.mem_of_getElem? e)
  obtain ⟨v, h3, h4⟩ := h2.rv
  exact ⟨v, u, h1, h3, h4⟩
theorem fa_nil {α : Type} {p : α → Prop} : ∀ x ∈ ([] : List α), p x := fun _ h => nomatch h
theorem fa_cons {α : Type} {p : α → Prop} {a : α} {l : List α} (h : p a) (t : ∀ x ∈ l, p x) : ∀ x ∈ a :: l, p x := fun x hx => by
  rcases List.mem_cons.mp hx with rfl | hx
  · exact h
  · exact t x hx
theorem live_mk {K : PySem.W.Frag} {h : Heap} {mg : Str → Option Value} {r : Row} {f : Addr} {oc : Value} {od an : Option Addr} {osl : Array (Option Value)} {kV doc pm cdv ct : Value} (X : K.In h) (G : h.Ns mainGlobals mg) (a : PySem.W.nsIn K mainGlobals r.x = some (some (.ref f)))
    (l : K.lookup f = some ⟨oc, od, .func (PySem.W.fnOf r.x r.x (defArgs r.st) (defBody r.st) (defScope r.st) .none kV doc pm an cdv ct), osl⟩) (c : PySem.W.codeIn K cdv r.x = true) (k : PySem.W.keepIn K (.ref f) = true)
    (b : ∀ (kV doc pm : Value) (an : Option Addr) (cdv ct : Value) (us : List Value), us.length = r.ps.length → bindArgs (PySem.W.fnOf r.x r.x (defArgs r.st) (defBody r.st) (defScope r.st) .none kV doc pm an cdv ct) ⟨us, []⟩ = pure (r.ps.zip us)) : ∃ f fd, Live K mg r f fd := by
  have F := fun_mk (st := r.st) l c k
  exact ⟨f, _, F, PySem.W.mg_of X G a, F.binds b⟩
end RP

/-! plain data: no lists in it, texts of true signs -/
namespace RP
open PySem L2

mutual
def pur : D → Bool
  | .non => true
  | .bl _ => true
  | .int _ => true
  | .str x => PyData.strOk x
  | .tup xs => purs xs
  | .ref _ => false
def purs : List D → Bool
  | [] => true
  | x :: xs => pur x && purs xs
end
mutual
def pyP : D → PyData
  | .non => .none
  | .bl b => .bool b
  | .int i => .int i
  | .str x => .str x
  | .tup xs => .tuple (pyPs xs)
  | .ref _ => .none
def pyPs : List D → List PyData
  | [] => []
  | x :: xs => pyP x :: pyPs xs
end
mutual
theorem pur_py {rd : Nat → Option PyData} : ∀ d : D, pur d = true → pyW rd d = some (pyP d)
  | .non, _ => rfl
  | .bl _, _ => rfl
  | .int _, _ => rfl
  | .str _, _ => rfl
  | .tup xs, h => by simp only [pyW, pyP, purs_py xs (by simpa [pur] using h), Option.map_some]
  | .ref _, h => by cases h
theorem purs_py {rd : Nat → Option PyData} : ∀ d : List D, purs d = true → pysW rd d = some (pyPs d)
  | [], _ => rfl
  | x :: xs, h => by
    simp only [purs, Bool.and_eq_true] at h
    simp only [pysW, pyPs, pur_py x h.1, purs_py xs h.2]
end
mutual
theorem pur_lay : ∀ d : D, pur d = true → (pyP d).canLay0 = true
  | .non, _ => rfl
  | .bl _, _ => rfl
  | .int _, _ => rfl
  | .str _, h => h
  | .tup xs, h => by simp only [pyP, PyData.canLay0]; exact purs_lay xs (by simpa [pur] using h)
  | .ref _, h => by cases h
theorem purs_lay : ∀ d : List D, purs d = true → PyData.canLayAll0 (pyPs d) = true
  | [], _ => rfl
  | x :: xs, h => by
    simp only [purs, Bool.and_eq_true] at h
    simp only [pyPs, PyData.canLayAll0, Bool.and_eq_true]
    exact ⟨pur_lay x h.1, purs_lay xs h.2⟩
end
mutual
theorem pur_top : ∀ d : D, pur d = true → d.top = 0
  | .non, _ => rfl
  | .bl _, _ => rfl
  | .int _, _ => rfl
  | .str _, _ => rfl
  | .tup xs, h => by simp only [D.top]; exact purs_top xs (by simpa [pur] using h)
  | .ref _, h => by cases h
theorem purs_top : ∀ d : List D, purs d = true → tops d = 0
  | [], _ => rfl
  | x :: xs, h => by
    simp only [purs, Bool.and_eq_true] at h
    simp only [tops, pur_top x h.1, purs_top xs h.2]; rfl
end
theorem pur_le {d : D} (h : pur d = true) (n : Nat) : d.top ≤ n := by rw [pur_top d h]; exact Nat.zero_le _
theorem pur_mem : ∀ {xs : List D}, purs xs = true → ∀ x ∈ xs, pur x = true
  | y :: ys, h, x, hx => by
    simp only [purs, Bool.and_eq_true] at h
    rcases List.mem_cons.mp hx with rfl | hx
    · exact h.1
    · exact pur_mem h.2 x hx
theorem toPy_pur {d : D} (h : pur d = true) (st : Sto) : toPy st d = some (pyP d) := pur_py d h
theorem eq_nil {xs : List D} {st : Sto} (h : purs xs = true) : eqD (.tup xs) (.tup []) st = some xs.isEmpty := by
  show eqP (.tup xs) (.tup []) st = _
  unfold eqP
  rw [toPy_pur (d := .tup xs) (by simpa [pur] using h), toPy_pur (d := .tup []) rfl]
  have e1 : (pyP (.tup xs)).canLay0 = true := pur_lay _ (by simpa [pur] using h)
  have e2 : (pyP (.tup [])).depth = 1 := rfl
  simp only [e1, e2]
  rw [if_pos ⟨trivial, rfl, by omega⟩]
  cases xs <;> rfl
theorem eq_int {i j : Int} {st : Sto} : eqD (.int i) (.int j) st = some (i == j) := rfl

theorem atI_lit {α : Type} {xs : List α} {i : Nat} {a : α} (h : xs[i]? = some a) : L2.atI xs (i : Int) = some a := by
  have hl : i < xs.length := (List.getElem?_eq_some_iff.mp h).1
  unfold L2.atI L2.ixN
  rw [if_pos (by omega), if_pos (by omega)]
  simpa using h
theorem ix0 {a : D} {r : List D} {st : Sto} : ixD (.tup (a :: r)) (.int 0) st = .ok a st := by
  have h : L2.atI (a :: r) (0 : Int) = some a := atI_lit (i := 0) rfl
  simp only [ixD, seqOf, h]
theorem ix1 {a b : D} {r : List D} {st : Sto} : ixD (.tup (a :: b :: r)) (.int 1) st = .ok b st := by
  have h : L2.atI (a :: b :: r) (1 : Int) = some b := atI_lit (i := 1) rfl
  simp only [ixD, seqOf, h]
theorem ix2 {a b c : D} {r : List D} {st : Sto} : ixD (.tup (a :: b :: c :: r)) (.int 2) st = .ok c st := by
  have h : L2.atI (a :: b :: c :: r) (2 : Int) = some c := atI_lit (i := 2) rfl
  simp only [ixD, seqOf, h]
theorem ixL {n i : Nat} {o : O} {d : D} {st : Sto} (h : st[n]? = some o) (h2 : o.items[i]? = some d) : ixD (.ref n) (.int (i : Int)) st = .ok d st := by
  simp only [ixD, seqOf, h, Option.map_some, atI_lit h2]

/-- sizes for products -/
theorem log_lt {i : Int} {k : Nat} (h : i.natAbs < 2 ^ (k + 1)) : i.natAbs.log2 < k + 1 := by
  by_cases h0 : i.natAbs = 0
  · rw [h0]; simp
  · exact (Nat.log2_lt h0).mpr h
theorem mulOk_of {i j : Int} (h1 : i.natAbs < 2 ^ 9000) (h2 : j.natAbs < 2 ^ 9000) : mulOk i j = true := by
  have a := log_lt (k := 8999) h1
  have b := log_lt (k := 8999) h2
  unfold mulOk
  exact decide_eq_true (by omega)
theorem divOk_of {j : Int} (h1 : 0 < j) (h2 : j.natAbs < 2 ^ 8999) : divOk j = true := by
  have a := log_lt (k := 8998) h2
  unfold divOk
  exact decide_eq_true ⟨h1, by omega⟩
theorem powOk_of {i j : Int} (h1 : i.natAbs < 2 ^ 1000) (h2 : 0 ≤ j) (h3 : j ≤ 1000) : powOk i j = true := by
  have a := log_lt (k := 999) h1
  have b : Builtin.Int.intBits i ≤ 1000 := by
    unfold Builtin.Int.intBits
    split <;> omega
  unfold powOk
  refine decide_eq_true ⟨h2, ?_⟩
  have c : (Builtin.Int.intBits i : Int) * j ≤ 1000 * 1000 := Int.mul_le_mul (by omega) h3 h2 (by omega)
  omega

/-! ### the evaluation, step by step -/
section
variable {gl : List D} {cf : CallF} {env : Env} {st : Sto}
theorem e_v {i : Nat} : ev gl cf (.v i) env st = lkV (env[i]?) st := by simp only [ev]
theorem lkV_some {d : D} : lkV (some (some d)) st = .ok d st := rfl
theorem lkG_some {d : D} : lkG (some d) st = .ok d st := rfl
theorem e_k {d : D} : ev gl cf (.k d) env st = .ok d st := by simp only [ev]
theorem e_g {x : Nat} : ev gl cf (.g x) env st = lkG (gl[x]?) st := by simp only [ev]
theorem e_tup {es : Es} : ev gl cf (.tup es) env st = (evs gl cf es env st).bind fun ds st => if ds.length ≤ sizeLine then .ok (.tup ds) st else .bad := by simp only [ev]
theorem e_lst {es : Es} : ev gl cf (.lst es) env st = (evs gl cf es env st).bind fun ds st => if ds.length ≤ sizeLine then .ok (.ref st.length) (st ++ [.lst ds]) else .bad := by simp only [ev]
theorem e_bin {o : Bin} {a b : E} : ev gl cf (.bin o a b) env st = (ev gl cf a env st).bind fun x st => (ev gl cf b env st).bind fun y st => bin o x y st := by simp only [ev]
theorem e_cmp {o : Cmp} {a b : E} : ev gl cf (.cmp o a b) env st = (ev gl cf a env st).bind fun x st => (ev gl cf b env st).bind fun y st => cmp o x y st := by simp only [ev]
theorem e_chain {o p : Cmp} {a b c : E} : ev gl cf (.chain o p a b c) env st = (ev gl cf a env st).bind fun x st => (ev gl cf b env st).bind fun y st => (cmp o x y st).bind fun z st => br (isB z) ((ev gl cf c env st).bind fun w st => cmp p y w st) (.ok (.bl false) st) := by simp only [ev]
theorem e_neg {a : E} : ev gl cf (.neg a) env st = (ev gl cf a env st).bind fun x st => negD x st := by simp only [ev]
theorem e_not {a : E} : ev gl cf (.not a) env st = (ev gl cf a env st).bind fun x st => br (tru x st) (.ok (.bl false) st) (.ok (.bl true) st) := by simp only [ev]
theorem e_and {a b : E} : ev gl cf (.and a b) env st = (ev gl cf a env st).bind fun x st => br (tru x st) (ev gl cf b env st) (.ok x st) := by simp only [ev]
theorem e_or {a b : E} : ev gl cf (.or a b) env st = (ev gl cf a env st).bind fun x st => br (tru x st) (.ok x st) (ev gl cf b env st) := by simp only [ev]
theorem e_ife {a b c : E} : ev gl cf (.ife c a b) env st = (ev gl cf c env st).bind fun x st => br (tru x st) (ev gl cf a env st) (ev gl cf b env st) := by simp only [ev]
theorem e_ix {a b : E} : ev gl cf (.ix a b) env st = (ev gl cf a env st).bind fun x st => (ev gl cf b env st).bind fun y st => ixD x y st := by simp only [ev]
theorem e_call {f : Nat} {es : Es} : ev gl cf (.call f es) env st = (evs gl cf es env st).bind fun ds st => cf f ds st := by simp only [ev]
theorem e_bi {b : Bi} {es : Es} : ev gl cf (.bi b es) env st = (evs gl cf es env st).bind fun ds st => bi b ds st := by simp only [ev]
theorem e_isi {a : E} {t : Ty} : ev gl cf (.isi a t) env st = (ev gl cf a env st).bind fun x st => isiD t x st := by simp only [ev]
theorem e_mt {m : Mt} {a : E} {es : Es} : ev gl cf (.mt m a es) env st = (ev gl cf a env st).bind fun x st => (evs gl cf es env st).bind fun ds st => mt m x ds st := by simp only [ev]
theorem e_comp {t : Tg} {it : It} {c e : E} : ev gl cf (.comp t it c e) env st = (evI gl cf it env st).bind fun r st =>
      (compLoop (asg gl cf t) (ev gl cf c) (ev gl cf e) r.1 st.length (wipeE env t.slots) r.2 (st ++ [.lst []])).bind fun _ st' => .ok (.ref st.length) st' := by simp only [ev]
theorem es_nil : evs gl cf .nil env st = .ok [] st := by simp only [evs]
theorem es_cons {e : E} {es : Es} : evs gl cf (.cons e es) env st = (ev gl cf e env st).bind fun x st => (evs gl cf es env st).bind fun xs st => .ok (x :: xs) st := by simp only [evs]
theorem i_seq {e : E} : evI gl cf (.seq e) env st = (ev gl cf e env st).bind fun x st => itOf x st := by simp only [evI]
theorem i_rng {a b : E} : evI gl cf (.rng a b) env st = (ev gl cf a env st).bind fun x st => (ev gl cf b env st).bind fun y st => rngOf x y st := by simp only [evI]
theorem a_nm {i : Nat} {d : D} : asg gl cf (.nm i) d env st = .ok (env.set i (some d)) st := by simp only [asg]
theorem a_two {a b : Tg} {d : D} : asg gl cf (.two a b) d env st = asgTup (asg gl cf a) (asg gl cf b) d env st := by simp only [asg]
theorem a_tup {f g : D → Env → Sto → Res Env} {a b : D} : asgTup f g (.tup [a, b]) env st = (f a env st).bind fun env st => g b env st := by simp only [asgTup]
theorem a_sub {a i : E} {d : D} : asg gl cf (.sub a i) d env st = (ev gl cf a env st).bind fun o st => (ev gl cf i env st).bind fun k st => putTo (putIx o k d st) env := by simp only [asg]
theorem s_ex' {e : E} : evS gl cf (.ex e) env st = (ev gl cf e env st).bind fun _ st => .ok (.nx env) st := by simp only [evS]
theorem s_asg' {t : Tg} {e : E} : evS gl cf (.asg t e) env st = (ev gl cf e env st).bind fun d st => (asg gl cf t d env st).bind fun env st => .ok (.nx env) st := by simp only [evS]
theorem s_two' {i j : Nat} {a b : E} : evS gl cf (.two i j a b) env st = (ev gl cf a env st).bind fun x st => (ev gl cf b env st).bind fun y st => .ok (.nx ((env.set i (some x)).set j (some y))) st := by simp only [evS]
theorem s_aug' {i : Nat} {o : Bin} {e : E} : evS gl cf (.aug i o e) env st = (lkV (env[i]?) st).bind fun x st => (ev gl cf e env st).bind fun y st => (augD o x y st).bind fun z st => .ok (.nx (env.set i (some z))) st := by simp only [evS]
theorem s_ret' {e : E} : evS gl cf (.ret e) env st = (ev gl cf e env st).bind fun d st => .ok (.rt d) st := by simp only [evS]
theorem s_ife' {c : E} {a b : Ss} : evS gl cf (.ife c a b) env st = (ev gl cf c env st).bind fun x st => br (tru x st) (evSs gl cf a env st) (evSs gl cf b env st) := by simp only [evS]
theorem s_for' {t : Tg} {it : It} {b : Ss} : evS gl cf (.for_ t it b) env st = (evI gl cf it env st).bind fun r st => forLoop (asg gl cf t) (evSs gl cf b) r.1 st.length r.2 env st := by simp only [evS]
theorem s_skip' : evS gl cf .skip env st = .ok (.nx env) st := by simp only [evS]
theorem ss_nil : evSs gl cf .nil env st = .ok (.nx env) st := by simp only [evSs]
theorem ss_cons {s : S} {ss : Ss} : evSs gl cf (.cons s ss) env st = (evS gl cf s env st).bind fun f st => nxt f st (evSs gl cf ss) := by simp only [evSs]
end
theorem it_tup {xs : List D} {st : Sto} : itOf (.tup xs) st = .ok (none, xs) st := rfl
theorem it_ref {n : Nat} {o : O} {st : Sto} (h : st[n]? = some o) : itOf (.ref n) st = .ok (some (n, o.items), o.items) st := by simp only [itOf, seqOf, srcOf, h, Option.map_some]
theorem rng_of {i j : Int} {st : Sto} (h : -(2 ^ 62) ≤ i ∧ i < 2 ^ 62 ∧ -(2 ^ 62) ≤ j ∧ j < 2 ^ 62) : rngOf (.int i) (.int j) st = .ok (none, numb i (j - i).toNat) st := by simp only [rngOf, if_pos h]
theorem neg_int {i : Int} {st : Sto} : negD (.int i) st = .ok (.int (-i)) st := rfl
theorem putTo_some {env : Env} {st : Sto} : putTo (some st) env = .ok env st := rfl
theorem bi_len_tup {xs : List D} {st : Sto} : bi .len [.tup xs] st = .ok (.int xs.length) st := rfl
theorem bi_len_ref {n : Nat} {o : O} {st : Sto} (h : st[n]? = some o) : bi .len [.ref n] st = .ok (.int o.items.length) st := by simp only [bi, h]
theorem bi_tuple_ref {n : Nat} {o : O} {st : Sto} (h : st[n]? = some o) : bi .tuple [.ref n] st = .ok (.tup o.items) st := by simp only [bi, h]
theorem bi_sum_ref {n : Nat} {o : O} {ns : List Int} {st : Sto} (h : st[n]? = some o) (h2 : intsOf o.items = some ns) : bi .sum [.ref n] st = .ok (.int ns.sum) st := by simp only [bi, h, h2]
theorem b_add {i j : Int} {st : Sto} : bin .add (.int i) (.int j) st = .ok (.int (i + j)) st := rfl
theorem b_sub {i j : Int} {st : Sto} : bin .sub (.int i) (.int j) st = .ok (.int (i - j)) st := rfl
theorem b_mul {i j : Int} {st : Sto} (h : mulOk i j = true) : bin .mul (.int i) (.int j) st = .ok (.int (i * j)) st := by simp only [bin, h, if_true]
theorem b_fdiv {i j : Int} {st : Sto} (h : divOk j = true) : bin .fdiv (.int i) (.int j) st = .ok (.int (i / j)) st := by simp only [bin, h, if_true]
theorem b_mod {i j : Int} {st : Sto} (h : 0 < j) : bin .mod (.int i) (.int j) st = .ok (.int (i % j)) st := by simp only [bin, h, if_true]
theorem b_pow {i j : Int} {st : Sto} (h : powOk i j = true) : bin .pow (.int i) (.int j) st = .ok (.int (i ^ j.toNat)) st := by simp only [bin, h, if_true]
theorem c_lt {i j : Int} {st : Sto} : cmp .lt (.int i) (.int j) st = .ok (.bl (decide (i < j))) st := rfl
theorem c_le {i j : Int} {st : Sto} : cmp .le (.int i) (.int j) st = .ok (.bl (decide (i ≤ j))) st := rfl
theorem c_gt {i j : Int} {st : Sto} : cmp .gt (.int i) (.int j) st = .ok (.bl (decide (j < i))) st := rfl
theorem c_ge {i j : Int} {st : Sto} : cmp .ge (.int i) (.int j) st = .ok (.bl (decide (j ≤ i))) st := rfl
theorem c_eqi {i j : Int} {st : Sto} : cmp .eq (.int i) (.int j) st = .ok (.bl (i == j)) st := rfl
theorem c_nei {i j : Int} {st : Sto} : cmp .ne (.int i) (.int j) st = .ok (.bl (!(i == j))) st := rfl
theorem c_eqnil {xs : List D} {st : Sto} (h : purs xs = true) : cmp .eq (.tup xs) (.tup []) st = .ok (.bl xs.isEmpty) st := by simp only [cmp, eq_nil h, ofB]
def isNon : D → Bool
  | .non => true
  | _ => false
theorem c_isN {x : D} {st : Sto} : cmp .isN x .non st = .ok (.bl (isNon x)) st := by cases x <;> rfl
theorem c_notN {x : D} {st : Sto} : cmp .notN x .non st = .ok (.bl (!isNon x)) st := by cases x <;> rfl
theorem c_in {x : D} {ys : List D} {st : Sto} (h1 : flat x = true) (h2 : ys.all flat = true) : cmp .isin x (.tup ys) st = .ok (.bl (ys.any fun y => eqF y x)) st := by simp [cmp, inD, seqOf, h1, h2, ofB]
theorem sz0 : (([] : List D).length ≤ sizeLine) = True := eq_true (by show 0 ≤ sizeLine; decide)
theorem sz1 {a : D} : (([a] : List D).length ≤ sizeLine) = True := eq_true (by show 1 ≤ sizeLine; decide)
theorem sz2 {a b : D} : (([a, b] : List D).length ≤ sizeLine) = True := eq_true (by show 2 ≤ sizeLine; decide)
theorem sz3 {a b c : D} : (([a, b, c] : List D).length ≤ sizeLine) = True := eq_true (by show 3 ≤ sizeLine; decide)
theorem sz4 {a b c d : D} : (([a, b, c, d] : List D).length ≤ sizeLine) = True := eq_true (by show 4 ≤ sizeLine; decide)
theorem sz5 {a b c d e : D} : (([a, b, c, d, e] : List D).length ≤ sizeLine) = True := eq_true (by show 5 ≤ sizeLine; decide)
theorem sz6 {a b c d e f : D} : (([a, b, c, d, e, f] : List D).length ≤ sizeLine) = True := eq_true (by show 6 ≤ sizeLine; decide)
theorem sz7 {a b c d e f g : D} : (([a, b, c, d, e, f, g] : List D).length ≤ sizeLine) = True := eq_true (by show 7 ≤ sizeLine; decide)
theorem isB_bl {b : Bool} : isB (.bl b) = some b := rfl

/-! ### comprehensions -/
theorem tops_app : ∀ (xs ys : List D), tops (xs ++ ys) = max (tops xs) (tops ys)
  | [], ys => by simp [tops]
  | x :: xs, ys => by simp only [List.cons_append, tops, tops_app xs ys, Nat.max_assoc]
theorem wf_last {st : Sto} {acc : List D} (w : Wf st) (h : tops acc ≤ st.length + 1) : Wf (st ++ [.lst acc]) := by
  intro o ho
  rw [List.length_append, List.length_singleton]
  rcases List.mem_append.mp ho with h1 | h1
  · exact Nat.le_succ_of_le (w o h1)
  · obtain rfl : o = .lst acc := by simpa using h1
    exact h
theorem get_last {st : Sto} {o : O} : (st ++ [o])[st.length]? = some o := by simp
theorem setL_last {st : Sto} {acc ys : List D} {f : List D → Option (List D)} (h : f acc = some ys) (hl : ys.length ≤ sizeLine) : setL st.length f (st ++ [.lst acc]) = some (st ++ [.lst ys]) := by
  unfold setL
  rw [get_last]
  simp only [h, hl, if_true]
  simp
theorem trim_last {st : Sto} {acc : List D} {t : Nat} (w : Wf st) (h : tops acc ≤ st.length + 1) (ht : t ≤ st.length + 1) : trim (st.length + 1) t (st ++ [.lst acc]) = st ++ [.lst acc] := by
  have q := trim_id (st := st ++ [.lst acc]) (t := t) (wf_last w h) (by rw [List.length_append, List.length_singleton]; exact ht)
  rw [List.length_append, List.length_singleton] at q
  exact q
theorem comp_map {gl : List D} {cf : CallF} {st : Sto} (w : Wf st) {env : Env} {i : Nat} {elt : E} (f : D → D) : ∀ (xs acc : List D),
    (∀ x ∈ xs, (f x).top ≤ st.length ∧ ∀ acc' : List D, Wf (st ++ [.lst acc']) → ev gl cf elt (env.set i (some x)) (st ++ [.lst acc']) = .ok (f x) (st ++ [.lst acc'])) → tops acc ≤ st.length → acc.length + xs.length ≤ sizeLine →
    compLoop (asg gl cf (.nm i)) (ev gl cf (.k (.bl true))) (ev gl cf elt) none st.length env xs (st ++ [.lst acc]) = .ok () (st ++ [.lst (acc ++ xs.map f)])
  | [], acc, _, _, _ => by simp [compLoop, still]
  | x :: xs, acc, h, ha, hz => by
    obtain ⟨h1, h2⟩ := h x List.mem_cons_self
    have ta : tops (acc ++ [f x]) ≤ st.length := by rw [tops_app]; simp only [tops]; omega
    simp only [compLoop, still, if_true, a_nm, Res.bind_ok, e_k, tru_bl, br_some]
    rw [h2 acc (wf_last w (by omega))]
    simp only [Res.bind_ok]
    rw [setL_last (acc := acc) (f := fun xs => some (xs ++ [f x])) (ys := acc ++ [f x]) rfl (by simp at hz ⊢; omega)]
    simp only
    rw [trim_last w (by omega) (Nat.zero_le _)]
    rw [comp_map w f xs (acc ++ [f x]) (fun y hy => h y (List.mem_cons_of_mem _ hy)) ta (by simp at hz ⊢; omega)]
    simp

/-! ### a list changed by place -/
theorem put_at {st : Sto} {p i : Nat} {xs : List D} {v : D} (h : st[p]? = some (.lst xs)) (hi : i < xs.length) (hz : xs.length ≤ sizeLine) : putIx (.ref p) (.int (i : Int)) v st = some (st.set p (.lst (xs.set i v))) := by
  have e : L2.ixN xs.length (i : Int) = some i := by
    unfold L2.ixN
    rw [if_pos (by omega), if_pos (by omega)]
    simp
  simp only [putIx, setL, h, e, Option.map_some, List.length_set, hz, if_true]
theorem get_set {st : Sto} {p : Nat} {o o' : O} (h : st[p]? = some o) : (st.set p o')[p]? = some o' := by
  rw [List.getElem?_set_self (List.getElem?_eq_some_iff.mp h).1]
theorem wf_set {st : Sto} {p : Nat} {o : O} (w : Wf st) (h : o.top ≤ st.length) : Wf (st.set p o) := by
  intro o' ho
  rw [List.length_set]
  rcases List.mem_or_eq_of_mem_set ho with h1 | h1
  · exact w o' h1
  · rw [h1]; exact h
/-- a pot of draws -/
structure Pot (m : Nat) (o : O) : Prop where
  ex : ∃ a b c : Int, o = .lst [.int a, .int b, .int c] ∧ 0 ≤ a ∧ a < 2 ^ 3000 ∧ 0 ≤ b ∧ b < 2 ^ 62 ∧ 0 ≤ c ∧ c ≤ m
theorem Pot.top {m : Nat} {o : O} (h : Pot m o) : o.top = 0 := by
  obtain ⟨a, b, c, rfl, _⟩ := h.ex
  rfl
theorem Pot.mono {m m' : Nat} {o : O} (h : Pot m o) (hm : m ≤ m') : Pot m' o := by
  obtain ⟨a, b, c, h1, h2, h3, h4, h5, h6, h7⟩ := h.ex
  exact ⟨a, b, c, h1, h2, h3, h4, h5, h6, by omega⟩
theorem natAbs_lt {a : Int} {k n : Nat} (h0 : 0 ≤ a) (h : a < 2 ^ k) (hk : k ≤ n) : a.natAbs < 2 ^ n := by
  have h1 : a.natAbs < 2 ^ k := by
    have : (a.natAbs : Int) < ((2 ^ k : Nat) : Int) := by rw [Int.natAbs_of_nonneg h0]; exact_mod_cast h
    exact_mod_cast this
  exact Nat.lt_of_lt_of_le h1 (Nat.pow_le_pow_right (by decide) hk)

/-- a store with a pot at p and another thing at c -/
structure Pots (st : Sto) (p m c : Nat) (oc : O) : Prop where
  wf : Wf st
  pot : ∃ o, st[p]? = some o ∧ Pot m o
  oth : st[c]? = some oc
  ne : c ≠ p
theorem Pots.lt {st : Sto} {p m c : Nat} {oc : O} (h : Pots st p m c oc) : p < st.length := by
  obtain ⟨o, h1, _⟩ := h.pot
  exact (List.getElem?_eq_some_iff.mp h1).1
theorem Pots.set {st : Sto} {p m m' c : Nat} {oc o : O} (h : Pots st p m c oc) (ho : Pot m' o) : Pots (st.set p o) p m' c oc := by
  obtain ⟨o1, h1, _⟩ := h.pot
  refine ⟨wf_set h.wf (by rw [ho.top]; exact Nat.zero_le _), ⟨o, get_set h1, ho⟩, ?_, h.ne⟩
  rw [List.getElem?_set_ne (Ne.symm h.ne)]
  exact h.oth
theorem Pots.last {st : Sto} {p m c : Nat} {oc : O} {acc : List D} (h : Pots st p m c oc) (ha : tops acc ≤ st.length + 1) : Pots (st ++ [.lst acc]) p m c oc := by
  obtain ⟨o1, h1, h2⟩ := h.pot
  have lc : c < st.length := (List.getElem?_eq_some_iff.mp h.oth).1
  exact ⟨wf_last h.wf ha, ⟨o1, by rw [List.getElem?_append_left h.lt]; exact h1, h2⟩, by rw [List.getElem?_append_left lc]; exact h.oth, h.ne⟩
theorem Pots.mono {st : Sto} {p m m' c : Nat} {oc : O} (h : Pots st p m c oc) (hm : m ≤ m') : Pots st p m' c oc := by
  obtain ⟨o1, h1, h2⟩ := h.pot
  exact ⟨h.wf, ⟨o1, h1, h2.mono hm⟩, h.oth, h.ne⟩
theorem set_last {st : Sto} {p : Nat} {o l : O} (h : p < st.length) : (st ++ [l]).set p o = st.set p o ++ [l] := List.set_append_left _ _ h
/-- a comprehension whose element draws -/
theorem comp_draw {gl : List D} {cf : CallF} {env : Env} {i p c T M : Nat} {oc : O} {elt : E} {Q : D → Prop}
    (hel : ∀ (st : Sto) (m : Nat) (x : D), Pots st p m c oc → m + T ≤ M → ∃ y o', ev gl cf elt (env.set i (some x)) st = .ok y (st.set p o') ∧ Q y ∧ y.top = 0 ∧ Pot (m + T) o') :
    ∀ (xs acc : List D) (st : Sto) (m : Nat), Pots st p m c oc → m + T * xs.length ≤ M → tops acc = 0 → acc.length + xs.length ≤ sizeLine →
      ∃ ys o', compLoop (asg gl cf (.nm i)) (ev gl cf (.k (.bl true))) (ev gl cf elt) none st.length env xs (st ++ [.lst acc]) = .ok () (st.set p o' ++ [.lst (acc ++ ys)]) ∧ ys.length = xs.length ∧ (∀ y ∈ ys, Q y) ∧ tops ys = 0 ∧ Pot (m + T * xs.length) o'
  | [], acc, st, m, h, _, _, _ => by
    obtain ⟨o, h1, h2⟩ := h.pot
    refine ⟨[], o, ?_, rfl, (fun y hy => nomatch hy), rfl, by simpa using h2⟩
    have e : st.set p o = st := by
      obtain ⟨hl, rfl⟩ := List.getElem?_eq_some_iff.mp h1
      exact List.set_getElem_self hl
    simp [compLoop, still, e]
  | x :: xs, acc, st, m, h, hM, ha, hz => by
    have hlen : T * (x :: xs).length = T + T * xs.length := by rw [List.length_cons, Nat.mul_add, Nat.mul_one, Nat.add_comm]
    obtain ⟨y, o1, e1, q1, t1, p1⟩ := hel (st ++ [.lst acc]) m x (h.last (by omega)) (by omega)
    have ta : tops (acc ++ [y]) = 0 := by rw [tops_app]; simp only [tops, ha, t1]; rfl
    have hp1 := h.set (m' := m + T) p1
    have ls : (st.set p o1).length = st.length := List.length_set
    obtain ⟨ys, o2, e2, l2, q2, t2, p2⟩ := comp_draw hel xs (acc ++ [y]) (st.set p o1) (m + T) hp1 (by omega) ta (by simp at hz ⊢; omega)
    refine ⟨y :: ys, o2, ?_, by simp [l2], fun z hz' => ?_, by simp only [tops, t1, t2]; rfl, by rw [hlen, ← Nat.add_assoc]; exact p2⟩
    · simp only [compLoop, still, if_true, a_nm, Res.bind_ok, e_k, tru_bl, br_some]
      rw [e1, set_last h.lt]
      simp only [Res.bind_ok]
      rw [show setL st.length (fun xs => some (xs ++ [y])) (st.set p o1 ++ [.lst acc]) = some (st.set p o1 ++ [.lst (acc ++ [y])]) by
        rw [← ls]; exact setL_last (f := fun xs => some (xs ++ [y])) rfl (by simp at hz ⊢; omega)]
      simp only
      rw [show trim (st.length + 1) 0 (st.set p o1 ++ [.lst (acc ++ [y])]) = st.set p o1 ++ [.lst (acc ++ [y])] by
        rw [← ls]; exact trim_last hp1.wf (by omega) (Nat.zero_le _)]
      rw [ls] at e2
      rw [e2, List.set_set]
      simp
    · rcases List.mem_cons.mp hz' with rfl | hz'
      · exact q1
      · exact q2 z hz'

theorem c_nestr {a b : Str} {st : Sto} : cmp .ne (.str a) (.str b) st = .ok (.bl (!decide (a = b))) st := rfl
theorem c_eqstr {a b : Str} {st : Sto} : cmp .eq (.str a) (.str b) st = .ok (.bl (decide (a = b))) st := rfl
/-! ### repr -/
theorem int_len {i : Int} (h : i.natAbs < 2 ^ 1900) : (PyData.shown (.int i)).length ≤ 1921 := by
  have a := log_lt (k := 1899) h
  exact PyProof.Rows.int_text_len_1921 (by omega)
theorem showable_int {i : Int} (h : i.natAbs < 2 ^ 1900) : PyData.showable (.int i) = true := by
  have a := log_lt (k := 1899) h
  exact decide_eq_true (by omega)
theorem repr_two {i j : Int} (hi : i.natAbs < 2 ^ 1900) (hj : j.natAbs < 2 ^ 1900) : reprOk (.list [.int i, .int j]) = true := by
  unfold reprOk
  simp only [Bool.and_eq_true, decide_eq_true_eq]
  refine ⟨⟨?_, by simp [PyData.depth, PyData.depthAll]⟩, ?_⟩
  · simp only [PyData.showable, PyData.showableAll, Bool.and_eq_true]
    exact ⟨showable_int hi, showable_int hj, trivial⟩
  · have a := listText_len_le [PyData.shown (.int i), PyData.shown (.int j)]
    have b := int_len hi
    have c := int_len hj
    simp only [List.map_cons, List.map_nil, List.sum_cons, List.sum_nil, List.length_cons, List.length_nil] at a
    have e : (PyData.shown (.list [.int i, .int j])) = listText [PyData.shown (.int i), PyData.shown (.int j)] := by simp only [PyData.shown, PyData.shownAll]
    rw [e]
    have z : (4000 : Nat) ≤ sizeLine := by decide
    omega
end RP
namespace RP
open PySem L2
section
variable {gl : List D} {cf : CallF} {env : Env} {st : Sto}
theorem e_sl {a lo hi : E} : ev gl cf (.sl a lo hi) env st = (ev gl cf a env st).bind fun x st => (ev gl cf lo env st).bind fun l st => (ev gl cf hi env st).bind fun h st => slD x l h st := by simp only [ev]
theorem e_rev {a : E} : ev gl cf (.rev a) env st = (ev gl cf a env st).bind fun x st => revD x st := by simp only [ev]
theorem rev_ref {n : Nat} {o : O} (h : st[n]? = some o) : revD (.ref n) st = .ok (.ref st.length) (st ++ [.lst o.items.reverse]) := by simp only [revD, h]
theorem sl_two {a b c : D} : slD (.tup [a, b, c]) .non (.int 2) st = .ok (.tup [a, b]) st := rfl
theorem b_cat {xs ys : List D} (h : xs.length + ys.length ≤ sizeLine) : bin .add (.tup xs) (.tup ys) st = .ok (.tup (xs ++ ys)) st := by simp only [bin, h, if_true]
end
end RP

namespace Qk04
open PySem L2 RP
def topS (i : Nat) : Stmt := PySem.Challenge.pw_roomprofile_k04_mirrors.main.body.getD i (.Pass ⟨0, 0, 0, 0⟩)
def b4f0 : Ss := (.cons (.asg (.nm 5) (.call 3 (.cons (.v 4) (.cons (.bin .sub (.v 1) (.k (.int (1)))) .nil)))) (.cons (.ife (.cmp .isN (.v 5) (.k (.non))) (.cons (.ret (.k (.non))) .nil) .nil) (.cons (.two 2 3 (.bin .add (.v 2) (.ix (.v 5) (.k (.int (0))))) (.bin .add (.v 3) (.ix (.v 5) (.k (.int (1)))))) (.cons (.ife (.or (.cmp .gt (.v 2) (.g 3)) (.cmp .gt (.v 3) (.g 1))) (.cons (.ret (.k (.non))) .nil) .nil) .nil))))
def b8c0 : E := (.call 8 (.cons (.v 1) .nil))
def b9f0 : Ss := (.cons (.asg (.nm 3) (.ife (.cmp .eq (.v 0) (.k (.str "par"))) (.bin .add (.v 3) (.v 5)) (.bi .min (.cons (.v 3) (.cons (.bin .add (.v 2) (.v 5)) .nil))))) (.cons (.aug 2 .add (.v 4)) .nil))
def b14c0 : E := (.call 14 (.cons (.v 2) .nil))
def b19c0 : E := (.call 18 (.cons (.v 0) .nil))
def b19c1 : E := (.call 19 (.cons (.v 0) (.cons (.bin .sub (.v 1) (.k (.int (1)))) (.cons (.v 2) .nil))))
def b20c0 : E := (.call 20 (.cons (.v 2) .nil))
def b20f0 : Ss := (.cons (.asg (.nm 3) (.bin .add (.tup (.cons (.v 2) .nil)) (.v 3))) .nil)
def b21f0 : Ss := (.cons (.asg (.nm 2) (.call 16 (.cons (.v 0) (.cons (.v 1) .nil)))) (.cons (.asg (.nm 3) (.call 19 (.cons (.v 2) (.cons (.k (.int (5))) (.cons (.lst (.cons (.k (.int (0))) (.cons (.k (.int (1))) (.cons (.k (.int (2))) (.cons (.k (.int (3))) (.cons (.bin .pow (.k (.int (10))) (.k (.int (12)))) (.cons (.k (.int (7))) .nil))))))) .nil))))) (.cons (.ife (.not (.call 6 (.cons (.v 3) .nil))) (.cons (.asg (.nm 3) (.tup (.cons (.k (.str "par")) (.cons (.tup (.cons (.tup (.cons (.k (.str "seq")) (.cons (.tup (.cons (.k (.int (3))) (.cons (.tup (.cons (.k (.str "repeat")) (.cons (.bin .pow (.k (.int (10))) (.k (.int (12)))) (.cons (.tup (.cons (.k (.str "seq")) (.cons (.tup (.cons (.k (.int (2))) (.cons (.neg (.k (.int (3)))) .nil))) .nil))) .nil)))) .nil))) .nil))) (.cons (.neg (.k (.int (4)))) .nil))) .nil)))) .nil) .nil) (.cons (.two 4 5 (.bi .repr (.cons (.v 3) .nil)) (.call 15 (.cons (.v 3) .nil))) (.cons (.ife (.or (.cmp .ne (.bi .repr (.cons (.v 5) .nil)) (.bi .repr (.cons (.call 20 (.cons (.v 3) .nil)) .nil))) (.or (.cmp .ne (.call 15 (.cons (.v 5) .nil)) (.v 3)) (.cmp .ne (.bi .repr (.cons (.v 3) .nil)) (.v 4)))) (.cons (.ret (.k (.bl false))) .nil) .nil) (.cons (.ife (.cmp .ne (.bi .repr (.cons (.lst (.cons (.call 12 (.cons (.v 5) .nil)) (.cons (.call 13 (.cons (.v 5) .nil)) .nil))) .nil)) (.bi .repr (.cons (.lst (.cons (.bin .sub (.k (.int (0))) (.call 12 (.cons (.v 3) .nil))) (.cons (.bin .sub (.call 13 (.cons (.v 3) .nil)) (.call 12 (.cons (.v 3) .nil))) .nil))) .nil))) (.cons (.ret (.k (.bl false))) .nil) .nil) .nil))))))
/-- is_integer -/
def b0 : Ss := (.cons (.ret (.and (.isi (.v 0) .int) (.not (.isi (.v 0) .bool)))) .nil)
/-- is_between -/
def b1 : Ss := (.cons (.ret (.and (.call 0 (.cons (.v 0) .nil)) (.chain .le .le (.v 1) (.v 0) (.v 2)))) .nil)
/-- is_node -/
def b2 : Ss := (.cons (.ret (.isi (.v 0) .tuple)) .nil)
/-- measured -/
def b3 : Ss := (.cons (.ife (.cmp .eq (.v 1) (.k (.int (0)))) (.cons (.ret (.k (.non))) .nil) .nil) (.cons (.ife (.call 1 (.cons (.v 0) (.cons (.bin .sub (.k (.int (0))) (.g 0)) (.cons (.g 0) .nil)))) (.cons (.ret (.tup (.cons (.k (.int (1))) (.cons (.k (.int (1))) .nil)))) .nil) .nil) (.cons (.ife (.or (.not (.isi (.v 0) .tuple)) (.or (.cmp .eq (.v 0) (.tup .nil)) (.not (.isi (.ix (.v 0) (.k (.int (0)))) .str)))) (.cons (.ret (.k (.non))) .nil) .nil) (.cons (.ife (.and (.cmp .isin (.ix (.v 0) (.k (.int (0)))) (.g 5)) (.cmp .eq (.bi .len (.cons (.v 0) .nil)) (.k (.int (2))))) (.cons (.ret (.call 4 (.cons (.ix (.v 0) (.k (.int (1)))) (.cons (.v 1) .nil)))) .nil) .nil) (.cons (.ife (.and (.cmp .isin (.ix (.v 0) (.k (.int (0)))) (.g 6)) (.cmp .eq (.bi .len (.cons (.v 0) .nil)) (.k (.int (3))))) (.cons (.ret (.call 5 (.cons (.ix (.v 0) (.k (.int (1)))) (.cons (.ix (.v 0) (.k (.int (2)))) (.cons (.v 1) .nil))))) .nil) .nil) (.cons (.ret (.k (.non))) .nil))))))
/-- measured_parts -/
def b4 : Ss := (.cons (.ife (.or (.not (.isi (.v 0) .tuple)) (.cmp .gt (.bi .len (.cons (.v 0) .nil)) (.g 2))) (.cons (.ret (.k (.non))) .nil) .nil) (.cons (.asg (.two (.nm 2) (.nm 3)) (.tup (.cons (.k (.int (1))) (.cons (.k (.int (0))) .nil)))) (.cons (.for_ (.nm 4) (.seq (.v 0)) b4f0) (.cons (.ret (.tup (.cons (.v 2) (.cons (.v 3) .nil)))) .nil))))
/-- measured_multiple -/
def b5 : Ss := (.cons (.ife (.not (.call 1 (.cons (.v 0) (.cons (.k (.int (0))) (.cons (.g 1) .nil))))) (.cons (.ret (.k (.non))) .nil) .nil) (.cons (.asg (.nm 3) (.call 3 (.cons (.v 1) (.cons (.bin .sub (.v 2) (.k (.int (1)))) .nil)))) (.cons (.ife (.or (.cmp .isN (.v 3) (.k (.non))) (.or (.cmp .eq (.ix (.v 3) (.k (.int (0)))) (.g 3)) (.cmp .gt (.bin .mul (.v 0) (.ix (.v 3) (.k (.int (1))))) (.g 1)))) (.cons (.ret (.k (.non))) .nil) .nil) (.cons (.ret (.tup (.cons (.bin .add (.k (.int (1))) (.ix (.v 3) (.k (.int (0))))) (.cons (.bin .mul (.v 0) (.ix (.v 3) (.k (.int (1))))) .nil)))) .nil))))
/-- is_job -/
def b6 : Ss := (.cons (.ret (.cmp .notN (.call 3 (.cons (.v 0) (.cons (.g 4) .nil))) (.k (.non)))) .nil)
/-- check_job -/
def b7 : Ss := (.cons (.ife (.not (.call 6 (.cons (.v 0) .nil))) (.cons .never .nil) .nil) .nil)
/-- extent_by -/
def b8 : Ss := (.cons (.ife (.not (.call 2 (.cons (.v 0) .nil))) (.cons (.ret (.tup (.cons (.v 0) (.cons (.bi .min (.cons (.k (.int (0))) (.cons (.v 0) .nil))) .nil)))) .nil) .nil) (.cons (.ife (.cmp .isin (.ix (.v 0) (.k (.int (0)))) (.g 5)) (.cons (.ret (.call 9 (.cons (.ix (.v 0) (.k (.int (0)))) (.cons (.comp (.nm 1) (.seq (.ix (.v 0) (.k (.int (1))))) (.k (.bl true)) b8c0) .nil)))) .nil) .nil) (.cons (.asg (.two (.nm 2) (.nm 3)) (.call 8 (.cons (.ix (.v 0) (.k (.int (2)))) .nil))) (.cons (.ife (.cmp .eq (.ix (.v 0) (.k (.int (1)))) (.k (.int (0)))) (.cons (.ret (.tup (.cons (.k (.int (0))) (.cons (.k (.int (0))) .nil)))) .nil) .nil) (.cons (.ife (.cmp .eq (.ix (.v 0) (.k (.int (0)))) (.k (.str "copies"))) (.cons (.ret (.tup (.cons (.bin .mul (.ix (.v 0) (.k (.int (1)))) (.v 2)) (.cons (.bin .mul (.ix (.v 0) (.k (.int (1)))) (.v 3)) .nil)))) .nil) .nil) (.cons (.ret (.tup (.cons (.bin .mul (.ix (.v 0) (.k (.int (1)))) (.v 2)) (.cons (.bin .add (.v 3) (.bi .min (.cons (.k (.int (0))) (.cons (.bin .mul (.bin .sub (.ix (.v 0) (.k (.int (1)))) (.k (.int (1)))) (.v 2)) .nil)))) .nil)))) .nil))))))
/-- extent_of_parts -/
def b9 : Ss := (.cons (.asg (.two (.nm 2) (.nm 3)) (.tup (.cons (.k (.int (0))) (.cons (.k (.int (0))) .nil)))) (.cons (.for_ (.two (.nm 4) (.nm 5)) (.seq (.v 1)) b9f0) (.cons (.ret (.tup (.cons (.v 2) (.cons (.v 3) .nil)))) .nil)))
/-- net_by -/
def b10 : Ss := (.cons (.ret (.ix (.call 8 (.cons (.v 0) .nil)) (.k (.int (0))))) .nil)
/-- lowest_by -/
def b11 : Ss := (.cons (.ret (.ix (.call 8 (.cons (.v 0) .nil)) (.k (.int (1))))) .nil)
/-- net -/
def b12 : Ss := (.cons (.ex (.call 7 (.cons (.v 0) .nil))) (.cons (.ret (.call 10 (.cons (.v 0) .nil))) .nil))
/-- lowest -/
def b13 : Ss := (.cons (.ex (.call 7 (.cons (.v 0) .nil))) (.cons (.ret (.call 11 (.cons (.v 0) .nil))) .nil))
/-- mirror_by -/
def b14 : Ss := (.cons (.ife (.not (.call 2 (.cons (.v 0) .nil))) (.cons (.ret (.bin .sub (.k (.int (0))) (.v 0))) .nil) .nil) (.cons (.ife (.cmp .isin (.ix (.v 0) (.k (.int (0)))) (.g 6)) (.cons (.ret (.tup (.cons (.ix (.v 0) (.k (.int (0)))) (.cons (.ix (.v 0) (.k (.int (1)))) (.cons (.call 14 (.cons (.ix (.v 0) (.k (.int (2)))) .nil)) .nil))))) .nil) .nil) (.cons (.asg (.nm 1) (.comp (.nm 2) (.seq (.ix (.v 0) (.k (.int (1))))) (.k (.bl true)) b14c0)) (.cons (.ret (.tup (.cons (.ix (.v 0) (.k (.int (0)))) (.cons (.bi .tuple (.cons (.ife (.cmp .eq (.ix (.v 0) (.k (.int (0)))) (.k (.str "seq"))) (.rev (.v 1)) (.v 1)) .nil)) .nil)))) .nil))))
/-- mirror -/
def b15 : Ss := (.cons (.ex (.call 7 (.cons (.v 0) .nil))) (.cons (.ret (.call 14 (.cons (.v 0) .nil))) .nil))
/-- _law_pot -/
def b16 : Ss := (.cons (.asg (.nm 2) (.k (.int (0)))) (.cons (.ife (.cmp .lt (.v 1) (.bi .len (.cons (.v 0) .nil))) (.cons (.asg (.nm 2) (.bin .mod (.bi .abs (.cons (.ix (.v 0) (.v 1)) .nil)) (.bin .pow (.bin .pow (.k (.int (10))) (.k (.int (60)))) (.k (.int (14)))))) .nil) .nil) (.cons (.asg (.nm 3) (.bin .mod (.bin .pow (.bin .add (.bin .add (.bin .mod (.v 2) (.k (.int (2147483587)))) (.bin .mul (.k (.int (6151))) (.v 1))) (.k (.int (3)))) (.k (.int (5)))) (.k (.int (2305843009213693951))))) (.cons (.ret (.lst (.cons (.bin .mul (.v 2) (.bi .int (.cons (.cmp .ge (.v 2) (.bin .pow (.k (.int (10))) (.k (.int (18))))) .nil))) (.cons (.v 3) (.cons (.k (.int (0))) .nil))))) .nil))))
/-- _law_take -/
def b17 : Ss := (.cons (.ife (.cmp .gt (.ix (.v 0) (.k (.int (0)))) (.k (.int (0)))) (.cons (.asg (.nm 2) (.bin .mod (.ix (.v 0) (.k (.int (0)))) (.v 1))) (.cons (.asg (.sub (.v 0) (.k (.int (0)))) (.bin .fdiv (.ix (.v 0) (.k (.int (0)))) (.v 1))) (.cons (.ret (.v 2)) .nil))) .nil) (.cons (.asg (.sub (.v 0) (.k (.int (2)))) (.bin .add (.ix (.v 0) (.k (.int (2)))) (.k (.int (1))))) (.cons (.asg (.nm 3) (.bin .mod (.bin .pow (.bin .add (.ix (.v 0) (.k (.int (1)))) (.bin .mul (.k (.int (98317))) (.ix (.v 0) (.k (.int (2)))))) (.k (.int (3)))) (.k (.int (2305843009213693921))))) (.cons (.asg (.nm 4) (.bin .mod (.bin .pow (.bin .add (.bin .add (.v 3) (.bin .mod (.ix (.v 0) (.k (.int (1)))) (.k (.int (65521))))) (.bin .mul (.k (.int (37))) (.ix (.v 0) (.k (.int (2)))))) (.k (.int (5)))) (.k (.int (2305843009213693907))))) (.cons (.ret (.bin .mod (.bin .fdiv (.v 4) (.k (.int (2048)))) (.v 1))) .nil)))))
/-- _law_step -/
def b18 : Ss := (.cons (.asg (.nm 1) (.call 17 (.cons (.v 0) (.cons (.k (.int (14))) .nil)))) (.cons (.ife (.cmp .eq (.v 1) (.k (.int (0)))) (.cons (.ret (.k (.int (0)))) .nil) .nil) (.cons (.ife (.cmp .eq (.v 1) (.k (.int (1)))) (.cons (.asg (.nm 2) (.bin .add (.bin .mul (.call 17 (.cons (.v 0) (.cons (.bin .pow (.k (.int (10))) (.k (.int (15)))) .nil))) (.bin .pow (.k (.int (10))) (.k (.int (15))))) (.call 17 (.cons (.v 0) (.cons (.bin .pow (.k (.int (10))) (.k (.int (15)))) .nil))))) (.cons (.ret (.ix (.lst (.cons (.v 2) (.cons (.bin .sub (.k (.int (0))) (.v 2)) (.cons (.bin .pow (.k (.int (10))) (.k (.int (30)))) (.cons (.bin .sub (.k (.int (0))) (.bin .pow (.k (.int (10))) (.k (.int (30))))) .nil))))) (.call 17 (.cons (.v 0) (.cons (.k (.int (4))) .nil))))) .nil)) .nil) (.cons (.ret (.bin .sub (.call 17 (.cons (.v 0) (.cons (.k (.int (19))) .nil))) (.k (.int (9))))) .nil))))
/-- _law_job -/
def b19 : Ss := (.cons (.asg (.nm 3) (.call 17 (.cons (.v 0) (.cons (.k (.int (9))) .nil)))) (.cons (.ife (.or (.cmp .lt (.v 1) (.k (.int (2)))) (.cmp .eq (.v 3) (.k (.int (0))))) (.cons (.ret (.call 18 (.cons (.v 0) .nil))) .nil) .nil) (.cons (.ife (.cmp .lt (.v 3) (.k (.int (3)))) (.cons (.asg (.nm 4) (.ix (.lst (.cons (.k (.int (3))) (.cons (.k (.int (2))) (.cons (.k (.int (4))) (.cons (.k (.int (0))) .nil))))) (.call 17 (.cons (.v 0) (.cons (.k (.int (4))) .nil))))) (.cons (.ret (.tup (.cons (.k (.str "seq")) (.cons (.bi .tuple (.cons (.comp (.nm 5) (.rng (.k (.int (0))) (.v 4)) (.k (.bl true)) b19c0) .nil)) .nil)))) .nil)) .nil) (.cons (.ife (.cmp .lt (.v 3) (.k (.int (7)))) (.cons (.asg (.nm 4) (.ix (.lst (.cons (.k (.int (2))) (.cons (.k (.int (3))) (.cons (.k (.int (2))) (.cons (.k (.int (1))) (.cons (.k (.int (3))) (.cons (.k (.int (0))) .nil))))))) (.call 17 (.cons (.v 0) (.cons (.k (.int (6))) .nil))))) (.cons (.ret (.tup (.cons (.ix (.lst (.cons (.k (.str "seq")) (.cons (.k (.str "par")) .nil))) (.bin .mod (.v 3) (.k (.int (2))))) (.cons (.bi .tuple (.cons (.comp (.nm 5) (.rng (.k (.int (0))) (.v 4)) (.k (.bl true)) b19c1) .nil)) .nil)))) .nil)) .nil) (.cons (.ret (.tup (.cons (.ix (.lst (.cons (.k (.str "repeat")) (.cons (.k (.str "copies")) .nil))) (.bin .mod (.v 3) (.k (.int (2))))) (.cons (.ix (.v 2) (.call 17 (.cons (.v 0) (.cons (.bi .len (.cons (.v 2) .nil)) .nil)))) (.cons (.call 19 (.cons (.v 0) (.cons (.bin .sub (.v 1) (.k (.int (1)))) (.cons (.v 2) .nil)))) .nil))))) .nil)))))
/-- _law_turned -/
def b20 : Ss := (.cons (.ife (.not (.isi (.v 0) .tuple)) (.cons (.ret (.bin .sub (.k (.int (0))) (.v 0))) .nil) .nil) (.cons (.ife (.cmp .isin (.ix (.v 0) (.k (.int (0)))) (.tup (.cons (.k (.str "repeat")) (.cons (.k (.str "copies")) .nil)))) (.cons (.ret (.bin .add (.sl (.v 0) (.k (.non)) (.k (.int (2)))) (.tup (.cons (.call 20 (.cons (.ix (.v 0) (.k (.int (2)))) .nil)) .nil)))) .nil) .nil) (.cons (.asg (.nm 1) (.comp (.nm 2) (.seq (.ix (.v 0) (.k (.int (1))))) (.k (.bl true)) b20c0)) (.cons (.ife (.cmp .eq (.ix (.v 0) (.k (.int (0)))) (.k (.str "par"))) (.cons (.ret (.tup (.cons (.k (.str "par")) (.cons (.bi .tuple (.cons (.v 1) .nil)) .nil)))) .nil) .nil) (.cons (.asg (.nm 3) (.tup .nil)) (.cons (.for_ (.nm 2) (.seq (.v 1)) b20f0) (.cons (.ret (.tup (.cons (.k (.str "seq")) (.cons (.v 3) .nil)))) .nil)))))))
/-- law -/
def b21 : Ss := (.cons (.for_ (.nm 1) (.rng (.k (.int (0))) (.bi .max (.cons (.k (.int (1))) (.cons (.bi .min (.cons (.k (.int (8))) (.cons (.bi .len (.cons (.v 0) .nil)) .nil))) .nil)))) b21f0) (.cons (.ret (.cmp .eq (.call 15 (.cons (.tup (.cons (.k (.str "par")) (.cons (.tup (.cons (.tup (.cons (.k (.str "seq")) (.cons (.tup (.cons (.k (.int (5))) (.cons (.neg (.k (.int (3)))) .nil))) .nil))) (.cons (.tup (.cons (.k (.str "repeat")) (.cons (.k (.int (4))) (.cons (.k (.int (0))) .nil)))) .nil))) .nil))) .nil)) (.tup (.cons (.k (.str "par")) (.cons (.tup (.cons (.tup (.cons (.k (.str "seq")) (.cons (.tup (.cons (.k (.int (3))) (.cons (.neg (.k (.int (5)))) .nil))) .nil))) (.cons (.tup (.cons (.k (.str "repeat")) (.cons (.k (.int (4))) (.cons (.k (.int (0))) .nil)))) .nil))) .nil))))) .nil))
def gls : List (Str × D) := [("MAX_STEP", .int (1000000000000000000000000000000)), ("MAX_COUNT", .int (1000000000000000000000000000000)), ("MAX_PARTS", .int (400)), ("MAX_NODES", .int (400)), ("MAX_DEPTH", .int (13)), ("GROUPS", .tup [.str "seq", .str "par"]), ("MULTIPLES", .tup [.str "repeat", .str "copies"])]
def bs : List Str := ["len", "abs", "max", "min", "int", "tuple", "repr", "str", "bool", "isinstance", "range"]
def r0 : Row := { x := "is_integer", ps := ["value"], N := ["value"], st := topS 4, fd := ⟨1, 1, b0⟩ }
def r1 : Row := { x := "is_between", ps := ["value", "low", "high"], N := ["value", "low", "high"], st := topS 5, fd := ⟨3, 3, b1⟩ }
def r2 : Row := { x := "is_node", ps := ["job"], N := ["job"], st := topS 14, fd := ⟨1, 1, b2⟩ }
def r3 : Row := { x := "measured", ps := ["value", "depth"], N := ["value", "depth"], st := topS 15, fd := ⟨2, 2, b3⟩ }
def r4 : Row := { x := "measured_parts", ps := ["parts", "depth"], N := ["parts", "depth", "nodes", "steps", "part", "sizes"], st := topS 16, fd := ⟨2, 6, b4⟩ }
def r5 : Row := { x := "measured_multiple", ps := ["count", "inner", "depth"], N := ["count", "inner", "depth", "sizes"], st := topS 17, fd := ⟨3, 4, b5⟩ }
def r6 : Row := { x := "is_job", ps := ["value"], N := ["value"], st := topS 18, fd := ⟨1, 1, b6⟩ }
def r7 : Row := { x := "check_job", ps := ["job"], N := ["job"], st := topS 19, fd := ⟨1, 1, b7⟩ }
def r8 : Row := { x := "extent_by", ps := ["job"], N := ["job", "part", "total", "low"], st := topS 20, fd := ⟨1, 4, b8⟩ }
def r9 : Row := { x := "extent_of_parts", ps := ["word", "extents"], N := ["word", "extents", "total", "low", "more", "lower"], st := topS 21, fd := ⟨2, 6, b9⟩ }
def r10 : Row := { x := "net_by", ps := ["job"], N := ["job"], st := topS 22, fd := ⟨1, 1, b10⟩ }
def r11 : Row := { x := "lowest_by", ps := ["job"], N := ["job"], st := topS 23, fd := ⟨1, 1, b11⟩ }
def r12 : Row := { x := "net", ps := ["job"], N := ["job"], st := topS 24, fd := ⟨1, 1, b12⟩ }
def r13 : Row := { x := "lowest", ps := ["job"], N := ["job"], st := topS 25, fd := ⟨1, 1, b13⟩ }
def r14 : Row := { x := "mirror_by", ps := ["job"], N := ["job", "parts", "part"], st := topS 26, fd := ⟨1, 3, b14⟩ }
def r15 : Row := { x := "mirror", ps := ["job"], N := ["job"], st := topS 27, fd := ⟨1, 1, b15⟩ }
def r16 : Row := { x := "_law_pot", ps := ["_law_script", "_law_k"], N := ["_law_script", "_law_k", "_law_cell", "_law_mixed"], st := topS 29, fd := ⟨2, 4, b16⟩ }
def r17 : Row := { x := "_law_take", ps := ["_law_pot_here", "_law_many"], N := ["_law_pot_here", "_law_many", "_law_found", "_law_one", "_law_other"], st := topS 30, fd := ⟨2, 5, b17⟩ }
def r18 : Row := { x := "_law_step", ps := ["_law_pot_here"], N := ["_law_pot_here", "_law_way", "_law_great"], st := topS 31, fd := ⟨1, 3, b18⟩ }
def r19 : Row := { x := "_law_job", ps := ["_law_pot_here", "_law_deep", "_law_counts"], N := ["_law_pot_here", "_law_deep", "_law_counts", "_law_way", "_law_many", "_law_turn"], st := topS 32, fd := ⟨3, 6, b19⟩ }
def r20 : Row := { x := "_law_turned", ps := ["_law_job_here"], N := ["_law_job_here", "_law_parts", "_law_part", "_law_found"], st := topS 33, fd := ⟨1, 4, b20⟩ }
def r21 : Row := { x := "law", ps := ["_law_script"], N := ["_law_script", "_law_k", "_law_pot_here", "_law_job_here", "_law_kept", "_law_found"], st := topS 34, fd := ⟨1, 6, b21⟩ }
def tab : Tab := { rows := [r0, r1, r2, r3, r4, r5, r6, r7, r8, r9, r10, r11, r12, r13, r14, r15, r16, r17, r18, r19, r20, r21], gls := gls, bs := bs }
theorem ok0 : RowOk tab r0 := row_ok (by kernel_rfl) ⟨rfl, rfl, rfl, by decide +kernel, rfl, by decide +kernel, by decide +kernel⟩ rfl rfl
theorem ok1 : RowOk tab r1 := row_ok (by kernel_rfl) ⟨rfl, rfl, rfl, by decide +kernel, rfl, by decide +kernel, by decide +kernel⟩ rfl rfl
theorem ok2 : RowOk tab r2 := row_ok (by kernel_rfl) ⟨rfl, rfl, rfl, by decide +kernel, rfl, by decide +kernel, by decide +kernel⟩ rfl rfl
theorem ok3 : RowOk tab r3 := row_ok (by kernel_rfl) ⟨rfl, rfl, rfl, by decide +kernel, rfl, by decide +kernel, by decide +kernel⟩ rfl rfl
theorem ok4 : RowOk tab r4 := row_ok (by kernel_rfl) ⟨rfl, rfl, rfl, by decide +kernel, rfl, by decide +kernel, by decide +kernel⟩ rfl rfl
theorem ok5 : RowOk tab r5 := row_ok (by kernel_rfl) ⟨rfl, rfl, rfl, by decide +kernel, rfl, by decide +kernel, by decide +kernel⟩ rfl rfl
theorem ok6 : RowOk tab r6 := row_ok (by kernel_rfl) ⟨rfl, rfl, rfl, by decide +kernel, rfl, by decide +kernel, by decide +kernel⟩ rfl rfl
theorem ok7 : RowOk tab r7 := row_ok (by kernel_rfl) ⟨rfl, rfl, rfl, by decide +kernel, rfl, by decide +kernel, by decide +kernel⟩ rfl rfl
theorem ok8 : RowOk tab r8 := row_ok (by kernel_rfl) ⟨rfl, rfl, rfl, by decide +kernel, rfl, by decide +kernel, by decide +kernel⟩ rfl rfl
theorem ok9 : RowOk tab r9 := row_ok (by kernel_rfl) ⟨rfl, rfl, rfl, by decide +kernel, rfl, by decide +kernel, by decide +kernel⟩ rfl rfl
theorem ok10 : RowOk tab r10 := row_ok (by kernel_rfl) ⟨rfl, rfl, rfl, by decide +kernel, rfl, by decide +kernel, by decide +kernel⟩ rfl rfl
theorem ok11 : RowOk tab r11 := row_ok (by kernel_rfl) ⟨rfl, rfl, rfl, by decide +kernel, rfl, by decide +kernel, by decide +kernel⟩ rfl rfl
theorem ok12 : RowOk tab r12 := row_ok (by kernel_rfl) ⟨rfl, rfl, rfl, by decide +kernel, rfl, by decide +kernel, by decide +kernel⟩ rfl rfl
theorem ok13 : RowOk tab r13 := row_ok (by kernel_rfl) ⟨rfl, rfl, rfl, by decide +kernel, rfl, by decide +kernel, by decide +kernel⟩ rfl rfl
theorem ok14 : RowOk tab r14 := row_ok (by kernel_rfl) ⟨rfl, rfl, rfl, by decide +kernel, rfl, by decide +kernel, by decide +kernel⟩ rfl rfl
theorem ok15 : RowOk tab r15 := row_ok (by kernel_rfl) ⟨rfl, rfl, rfl, by decide +kernel, rfl, by decide +kernel, by decide +kernel⟩ rfl rfl
theorem ok16 : RowOk tab r16 := row_ok (by kernel_rfl) ⟨rfl, rfl, rfl, by decide +kernel, rfl, by decide +kernel, by decide +kernel⟩ rfl rfl
theorem ok17 : RowOk tab r17 := row_ok (by kernel_rfl) ⟨rfl, rfl, rfl, by decide +kernel, rfl, by decide +kernel, by decide +kernel⟩ rfl rfl
theorem ok18 : RowOk tab r18 := row_ok (by kernel_rfl) ⟨rfl, rfl, rfl, by decide +kernel, rfl, by decide +kernel, by decide +kernel⟩ rfl rfl
theorem ok19 : RowOk tab r19 := row_ok (by kernel_rfl) ⟨rfl, rfl, rfl, by decide +kernel, rfl, by decide +kernel, by decide +kernel⟩ rfl rfl
theorem ok20 : RowOk tab r20 := row_ok (by kernel_rfl) ⟨rfl, rfl, rfl, by decide +kernel, rfl, by decide +kernel, by decide +kernel⟩ rfl rfl
theorem ok21 : RowOk tab r21 := row_ok (by kernel_rfl) ⟨rfl, rfl, rfl, by decide +kernel, rfl, by decide +kernel, by decide +kernel⟩ rfl rfl
def gl : List D := [.int (1000000000000000000000000000000), .int (1000000000000000000000000000000), .int (400), .int (400), .int (13), .tup [.str "seq", .str "par"], .tup [.str "repeat", .str "copies"]]
def P : List Fd := [⟨1, 1, b0⟩, ⟨3, 3, b1⟩, ⟨1, 1, b2⟩, ⟨2, 2, b3⟩, ⟨2, 6, b4⟩, ⟨3, 4, b5⟩, ⟨1, 1, b6⟩, ⟨1, 1, b7⟩, ⟨1, 4, b8⟩, ⟨2, 6, b9⟩, ⟨1, 1, b10⟩, ⟨1, 1, b11⟩, ⟨1, 1, b12⟩, ⟨1, 1, b13⟩, ⟨1, 3, b14⟩, ⟨1, 1, b15⟩, ⟨2, 4, b16⟩, ⟨2, 5, b17⟩, ⟨1, 3, b18⟩, ⟨3, 6, b19⟩, ⟨1, 4, b20⟩, ⟨1, 6, b21⟩]
theorem gg0 : gl[0]? = some (.int (1000000000000000000000000000000)) := rfl
theorem gg1 : gl[1]? = some (.int (1000000000000000000000000000000)) := rfl
theorem gg2 : gl[2]? = some (.int (400)) := rfl
theorem gg3 : gl[3]? = some (.int (400)) := rfl
theorem gg4 : gl[4]? = some (.int (13)) := rfl
theorem gg5 : gl[5]? = some (.tup [.str "seq", .str "par"]) := rfl
theorem gg6 : gl[6]? = some (.tup [.str "repeat", .str "copies"]) := rfl
theorem tab_gl : tab.gl = gl := rfl
theorem tab_P : tab.P = P := rfl
theorem p0 : P[0]? = some ⟨1, 1, b0⟩ := rfl
theorem p1 : P[1]? = some ⟨3, 3, b1⟩ := rfl
theorem p2 : P[2]? = some ⟨1, 1, b2⟩ := rfl
theorem p3 : P[3]? = some ⟨2, 2, b3⟩ := rfl
theorem p4 : P[4]? = some ⟨2, 6, b4⟩ := rfl
theorem p5 : P[5]? = some ⟨3, 4, b5⟩ := rfl
theorem p6 : P[6]? = some ⟨1, 1, b6⟩ := rfl
theorem p7 : P[7]? = some ⟨1, 1, b7⟩ := rfl
theorem p8 : P[8]? = some ⟨1, 4, b8⟩ := rfl
theorem p9 : P[9]? = some ⟨2, 6, b9⟩ := rfl
theorem p10 : P[10]? = some ⟨1, 1, b10⟩ := rfl
theorem p11 : P[11]? = some ⟨1, 1, b11⟩ := rfl
theorem p12 : P[12]? = some ⟨1, 1, b12⟩ := rfl
theorem p13 : P[13]? = some ⟨1, 1, b13⟩ := rfl
theorem p14 : P[14]? = some ⟨1, 3, b14⟩ := rfl
theorem p15 : P[15]? = some ⟨1, 1, b15⟩ := rfl
theorem p16 : P[16]? = some ⟨2, 4, b16⟩ := rfl
theorem p17 : P[17]? = some ⟨2, 5, b17⟩ := rfl
theorem p18 : P[18]? = some ⟨1, 3, b18⟩ := rfl
theorem p19 : P[19]? = some ⟨3, 6, b19⟩ := rfl
theorem p20 : P[20]? = some ⟨1, 4, b20⟩ := rfl
theorem p21 : P[21]? = some ⟨1, 6, b21⟩ := rfl
end Qk04

namespace Qk04
open PySem RP
local macro_rules | `(tactic| walk_at "ev") => `(tactic| simp only [e_v, lkV_some, lkG_some, e_k, e_g, e_tup, e_lst, e_bin, e_cmp, e_chain, e_neg, e_not, e_and, e_or, e_ife, e_ix, e_call, e_bi, e_isi, e_mt, e_sl, e_rev, e_comp, es_nil, es_cons, i_seq, i_rng, a_nm, a_two, a_tup, a_sub, s_ex', s_asg', s_two', s_aug', s_ret', s_ife', s_for', s_skip', ss_nil, ss_cons, it_tup, RP.neg_int, putTo_some, bi_len_tup, b_add, b_sub, c_lt, c_le, c_gt, c_ge, c_eqi, c_nei, c_isN, c_notN, isB_bl, sz0, sz1, sz2, sz3, sz4, sz5, sz6, sz7, ix0, ix1, ix2, List.map_cons, List.map_nil, List.cons_append, List.nil_append, Nat.sub_self, List.replicate, List.getElem?_cons_zero, List.getElem?_cons_succ, List.set_cons_zero, List.set_cons_succ, Res.bind_ok, nxt_nx, nxt_rt, br_some, tru_bl, fin_rt, fin_nx, if_true, if_false, Bool.false_eq_true, gg0, gg1, gg2, gg3, gg4, gg5, gg6])
local macro_rules | `(tactic| walk_at "end") => `(tactic| simp [nxt_nx, nxt_rt, ss_nil, br_some, tru_bl, fin_rt, fin_nx, D.top, tops, *])

def isI : D → Bool
  | .int _ => true
  | _ => false
def btw (d : D) (a b : Int) : Bool := match d with
  | .int i => decide (a ≤ i) && decide (i ≤ b)
  | _ => false
theorem is_integer_eq {n : Nat} {st : Sto} {d : D} (w : Wf st) (h : d.top ≤ st.length) : callN gl P (n + 1) 0 [d] st = .ok (.bl (isI d)) st := by
  rw [call_eq p0 rfl]
  have e := trim_id (t := 0) w (Nat.zero_le _)
  simp only [b0]
  walk_at "ev"
  simp only [isi_eq h]
  walk_at "ev"
  simp only [isi_eq h]
  walk_at "ev"
  cases d <;> simp only [tyB, isI] <;> walk_at "end"
theorem is_between_eq {n : Nat} {st : Sto} {d : D} {a b : Int} (w : Wf st) (h : d.top ≤ st.length) : callN gl P (n + 2) 1 [d, .int a, .int b] st = .ok (.bl (btw d a b)) st := by
  rw [call_eq p1 rfl]
  have e := trim_id (t := 0) w (Nat.zero_le _)
  simp only [b1]
  walk_at "ev"
  rw [is_integer_eq w h]
  walk_at "ev"
  cases d with
  | int i =>
    simp only [isI, if_true]
    walk_at "ev"
    by_cases h1 : a ≤ i <;> simp only [h1, btw, decide_true, decide_false, Bool.true_and, Bool.false_and] <;> walk_at "end"
  | _ => simp only [isI, btw] <;> walk_at "end"
theorem is_node_eq {n : Nat} {st : Sto} {d : D} (w : Wf st) (h : d.top ≤ st.length) : callN gl P (n + 1) 2 [d] st = .ok (.bl (tyB .tuple d)) st := by
  rw [call_eq p2 rfl]
  have e := trim_id (t := 0) w (Nat.zero_le _)
  simp only [b2]
  walk_at "ev"
  simp only [isi_eq h]
  walk_at "end"

/-! ### measured -/
def isG (x : D) : Bool := [D.str "seq", D.str "par"].any fun y => eqF y x
def isM (x : D) : Bool := [D.str "repeat", D.str "copies"].any fun y => eqF y x
abbrev big : Int := 1000000000000000000000000000000
def foldM (f : D → Option (Int × Int)) : List D → Int → Int → Option (Int × Int)
  | [], n, s => some (n, s)
  | p :: ps, n, s => match f p with
    | none => none
    | some (a, b) => if n + a > 400 ∨ s + b > big then none else foldM f ps (n + a) (s + b)
def partsM (f : D → Option (Int × Int)) : D → Option (Int × Int)
  | .tup xs => if 400 < xs.length then none else foldM f xs 1 0
  | _ => none
def multM (f : D → Option (Int × Int)) (c x : D) : Option (Int × Int) :=
  match c with
  | .int i => if 0 ≤ i ∧ i ≤ big then match f x with
    | some (a, b) => if a = 400 ∨ i * b > big then none else some (1 + a, i * b)
    | none => none
    else none
  | _ => none
def measM : Nat → D → Option (Int × Int)
  | 0, _ => none
  | k + 1, .int i => if 0 - big ≤ i ∧ i ≤ big then some (1, 1) else none
  | k + 1, .tup [.str w, x] => if isG (.str w) then partsM (measM k) x else none
  | k + 1, .tup [.str w, c, x] => if isM (.str w) then multM (measM k) c x else none
  | _, _ => none
def enc : Option (Int × Int) → D
  | none => .non
  | some (a, b) => .tup [.int a, .int b]
def okP (p : Int × Int) : Prop := 1 ≤ p.1 ∧ p.1 ≤ 400 ∧ 0 ≤ p.2 ∧ p.2 ≤ big
theorem foldM_ok {f : D → Option (Int × Int)} (hf : ∀ d p, f d = some p → okP p) : ∀ (xs : List D) (n s : Int) (p : Int × Int), 1 ≤ n → n ≤ 400 → 0 ≤ s → s ≤ big → foldM f xs n s = some p → okP p
  | [], n, s, p, h1, h2, h3, h4, e => by cases e; exact ⟨h1, h2, h3, h4⟩
  | x :: xs, n, s, p, h1, h2, h3, h4, e => by
    simp only [foldM] at e
    cases q : f x with
    | none => rw [q] at e; cases e
    | some r =>
      obtain ⟨a, b⟩ := r
      obtain ⟨k1, k2, k3, k4⟩ := hf x _ q
      rw [q] at e
      simp only at e
      split at e
      · cases e
      · rename_i c
        exact foldM_ok hf xs (n + a) (s + b) p (by simp at k1; omega) (by omega) (by simp at k3; omega) (by omega) e
theorem measM_ok : ∀ (k : Nat) (d : D) (p : Int × Int), measM k d = some p → okP p
  | 0, d, p, e => by simp [measM] at e
  | k + 1, d, p, e => by
    unfold measM at e
    split at e
    · cases e
    · split at e
      · cases e; exact ⟨by decide, by decide, by decide, by decide⟩
      · cases e
    · split at e
      · unfold partsM at e
        split at e
        · split at e
          · cases e
          · exact foldM_ok (measM_ok _) _ 1 0 p (by decide) (by decide) (by decide) (by decide) e
        · cases e
      · cases e
    · split at e
      · unfold multM at e
        split at e
        · split at e
          · rename_i hi
            split at e
            · rename_i a b q
              obtain ⟨k1, k2, k3, k4⟩ := measM_ok _ _ _ q
              split at e
              · cases e
              · rename_i c
                cases e
                simp only at k1 k2 k3 k4
                refine ⟨by simp only; omega, by simp only; omega, ?_, by simp only; omega⟩
                exact Int.mul_nonneg hi.1 k3
            · cases e
          · cases e
        · cases e
      · cases e
    · cases e
theorem okP.small {i : Int} (h1 : 0 ≤ i) (h2 : i ≤ big) : i.natAbs < 2 ^ 9000 := by
  have a : i.natAbs < 2 ^ 100 := by
    have : i < 2 ^ 100 := by unfold big at h2; omega
    omega
  exact Nat.lt_of_lt_of_le a (Nat.pow_le_pow_right (by decide) (by decide))
end Qk04

namespace Qk04
open PySem RP
local macro_rules | `(tactic| walk_at "ev") => `(tactic| simp only [e_v, lkV_some, lkG_some, e_k, e_g, e_tup, e_lst, e_bin, e_cmp, e_chain, e_neg, e_not, e_and, e_or, e_ife, e_ix, e_call, e_bi, e_isi, e_mt, e_sl, e_rev, e_comp, es_nil, es_cons, i_seq, i_rng, a_nm, a_two, a_tup, a_sub, s_ex', s_asg', s_two', s_aug', s_ret', s_ife', s_for', s_skip', ss_nil, ss_cons, it_tup, RP.neg_int, putTo_some, bi_len_tup, b_add, b_sub, c_lt, c_le, c_gt, c_ge, c_eqi, c_nei, c_isN, c_notN, isB_bl, sz0, sz1, sz2, sz3, sz4, sz5, sz6, sz7, ix0, ix1, ix2, List.map_cons, List.map_nil, List.cons_append, List.nil_append, Nat.sub_self, List.replicate, List.getElem?_cons_zero, List.getElem?_cons_succ, List.set_cons_zero, List.set_cons_succ, Res.bind_ok, nxt_nx, nxt_rt, br_some, tru_bl, fin_rt, fin_nx, if_true, if_false, Bool.false_eq_true, gg0, gg1, gg2, gg3, gg4, gg5, gg6])
local macro_rules | `(tactic| walk_at "end") => `(tactic| simp [nxt_nx, nxt_rt, ss_nil, br_some, tru_bl, fin_rt, fin_nx, D.top, tops, *])

theorem top_enc (p : Option (Int × Int)) : (enc p).top = 0 := by
  cases p with
  | none => rfl
  | some p => obtain ⟨a, b⟩ := p; rfl
theorem len_gt (n : Nat) : decide ((400 : Int) < (n : Int)) = decide (400 < n) := by
  by_cases h : 400 < n
  · rw [decide_eq_true h, decide_eq_true (by omega)]
  · rw [decide_eq_false h, decide_eq_false (by omega)]
/-- one part -/
def oneM (d0 : D) (k : Nat) (nd sp : Int) (x : D) (p : Option (Int × Int)) : Fl :=
  match p with
  | none => .rt .non
  | some (a, b) => if nd + a > 400 ∨ sp + b > big then .rt .non else .nx [some d0, some (.int ((k + 1 : Nat) : Int)), some (.int (nd + a)), some (.int (sp + b)), some x, some (.tup [.int a, .int b])]
theorem part_one {n k : Nat} {st : Sto} {d0 x : D} {nd sp : Int} {e5 : Option D} (hx : callN gl P n 3 [x, .int k] st = .ok (enc (measM k x)) st) :
    evSs gl (callN gl P n) b4f0 [some d0, some (.int ((k + 1 : Nat) : Int)), some (.int nd), some (.int sp), some x, e5] st = .ok (oneM d0 k nd sp x (measM k x)) st := by
  have hk : ((k + 1 : Nat) : Int) - 1 = (k : Int) := by omega
  simp only [b4f0]
  walk_at "ev"
  rw [hk, hx]
  walk_at "ev"
  cases q : measM k x with
  | none => simp only [enc, isNon, oneM]; walk_at "ev"
  | some ab =>
    obtain ⟨a, b⟩ := ab
    simp only [enc, isNon, oneM]
    walk_at "ev"
    by_cases c1 : nd + a > 400
    · have c1' : 400 < nd + a := c1
      simp only [c1', decide_true, c1, true_or]
      walk_at "ev"
    · have c1' : ¬ 400 < nd + a := c1
      simp only [c1', decide_false, c1, false_or]
      walk_at "ev"
      by_cases c2 : sp + b > big
      · have c2' : big < sp + b := c2
        simp only [c2', decide_true, c2]
        walk_at "ev"
      · have c2' : ¬ big < sp + b := c2
        simp only [c2', decide_false, c2]
        walk_at "ev"
/-- the loop over the parts -/
theorem parts_loop {n k : Nat} {st : Sto} {d0 : D} (w : Wf st) (h0 : d0.top = 0) (IH : ∀ x, pur x = true → callN gl P n 3 [x, .int k] st = .ok (enc (measM k x)) st) :
    ∀ (xs : List D) (nd sp : Int) (e4 e5 : Option D), purs xs = true →
      ∃ e4' e5', forLoop (asg gl (callN gl P n) (.nm 4)) (evSs gl (callN gl P n) b4f0) none st.length xs [some d0, some (.int ((k + 1 : Nat) : Int)), some (.int nd), some (.int sp), e4, e5] st =
        match foldM (measM k) xs nd sp with
        | none => .ok (.rt .non) st
        | some (a, b) => .ok (.nx [some d0, some (.int ((k + 1 : Nat) : Int)), some (.int a), some (.int b), e4', e5']) st
  | [], nd, sp, e4, e5, _ => ⟨e4, e5, by simp [forLoop, still, foldM]⟩
  | x :: xs, nd, sp, e4, e5, hp => by
    simp only [purs, Bool.and_eq_true] at hp
    have e := trim_id (t := 0) w (Nat.zero_le _)
    simp only [forLoop, still, if_true]
    walk_at "ev"
    rw [part_one (IH x hp.1)]
    walk_at "ev"
    cases q : measM k x with
    | none => exact ⟨none, none, by simp only [oneM, foldM, q, nxt_rt]⟩
    | some ab =>
      obtain ⟨a, b⟩ := ab
      simp only [oneM, foldM, q]
      by_cases c : nd + a > 400 ∨ sp + b > big
      · exact ⟨none, none, by simp only [if_pos c, nxt_rt]⟩
      · simp only [if_neg c, nxt_nx]
        obtain ⟨e4', e5', ih⟩ := parts_loop w h0 IH xs (nd + a) (sp + b) (some x) (some (.tup [.int a, .int b])) hp.2
        refine ⟨e4', e5', ?_⟩
        have et : envTop [some d0, some (.int ((k + 1 : Nat) : Int)), some (.int (nd + a)), some (.int (sp + b)), some x, some (.tup [.int a, .int b])] = 0 := by
          simp [envTop, D.top, tops, h0, pur_top x hp.1]
        rw [et, e]
        exact ih
theorem measured_parts_eq {n k : Nat} {st : Sto} (w : Wf st) (IH : ∀ x, pur x = true → callN gl P n 3 [x, .int k] st = .ok (enc (measM k x)) st) {d : D} (hd : pur d = true) :
    callN gl P (n + 1) 4 [d, .int ((k + 1 : Nat) : Int)] st = .ok (enc (partsM (measM k) d)) st := by
  rw [call_eq p4 rfl]
  have e := trim_id (t := 0) w (Nat.zero_le _)
  simp only [b4]
  walk_at "ev"
  simp only [isi_eq (pur_le hd _)]
  walk_at "ev"
  cases d with
  | tup xs =>
    simp only [tyB, if_true]
    walk_at "ev"
    simp only [len_gt, partsM]
    by_cases hl : 400 < xs.length
    · simp only [hl, decide_true, if_true]
      walk_at "ev"
      simp [e, enc, D.top]
    · simp only [hl, decide_false, if_false, Bool.false_eq_true]
      walk_at "ev"
      obtain ⟨e4', e5', ih⟩ := parts_loop (d0 := .tup xs) w (pur_top _ hd) IH xs 1 0 none none (by simpa [pur] using hd)
      rw [ih]
      cases q : foldM (measM k) xs 1 0 with
      | none =>
        simp only [Res.bind_ok, nxt_rt, fin_rt, D.top, e, enc]
      | some ab =>
        obtain ⟨a, b⟩ := ab
        simp only
        walk_at "ev"
        simp [D.top, tops, e, enc]
  | ref _ => cases hd
  | _ =>
    simp only [tyB, partsM]
    walk_at "ev"
    simp [e, enc, D.top]
end Qk04

namespace Qk04
open PySem RP
local macro_rules | `(tactic| walk_at "ev") => `(tactic| simp only [e_v, lkV_some, lkG_some, e_k, e_g, e_tup, e_lst, e_bin, e_cmp, e_chain, e_neg, e_not, e_and, e_or, e_ife, e_ix, e_call, e_bi, e_isi, e_mt, e_sl, e_rev, e_comp, es_nil, es_cons, i_seq, i_rng, a_nm, a_two, a_tup, a_sub, s_ex', s_asg', s_two', s_aug', s_ret', s_ife', s_for', s_skip', ss_nil, ss_cons, it_tup, RP.neg_int, putTo_some, bi_len_tup, b_add, b_sub, c_lt, c_le, c_gt, c_ge, c_eqi, c_nei, c_isN, c_notN, isB_bl, sz0, sz1, sz2, sz3, sz4, sz5, sz6, sz7, ix0, ix1, ix2, List.map_cons, List.map_nil, List.cons_append, List.nil_append, Nat.sub_self, List.replicate, List.getElem?_cons_zero, List.getElem?_cons_succ, List.set_cons_zero, List.set_cons_succ, Res.bind_ok, nxt_nx, nxt_rt, br_some, tru_bl, fin_rt, fin_nx, if_true, if_false, Bool.false_eq_true, gg0, gg1, gg2, gg3, gg4, gg5, gg6])
local macro_rules | `(tactic| walk_at "end") => `(tactic| simp [nxt_nx, nxt_rt, ss_nil, br_some, tru_bl, fin_rt, fin_nx, D.top, tops, *])

theorem measured_multiple_eq {n k : Nat} {st : Sto} (w : Wf st) {c x : D} (hc : pur c = true) (hx : callN gl P (n + 2) 3 [x, .int k] st = .ok (enc (measM k x)) st) :
    callN gl P (n + 3) 5 [c, x, .int ((k + 1 : Nat) : Int)] st = .ok (enc (multM (measM k) c x)) st := by
  rw [call_eq p5 rfl]
  have e := trim_id (t := 0) w (Nat.zero_le _)
  have hk : ((k + 1 : Nat) : Int) - 1 = (k : Int) := by omega
  simp only [b5]
  walk_at "ev"
  rw [is_between_eq w (pur_le hc _)]
  walk_at "ev"
  cases c with
  | int i =>
    simp only [btw, multM]
    by_cases h1 : 0 ≤ i
    · by_cases h2 : i ≤ big
      · simp only [h1, h2, decide_true, Bool.and_self, true_and, if_true]
        walk_at "ev"
        rw [hk, hx]
        walk_at "ev"
        cases q : measM k x with
        | none => simp only [enc, isNon]; walk_at "ev"; simp only [D.top, e]
        | some ab =>
          obtain ⟨a, b⟩ := ab
          obtain ⟨k1, k2, k3, k4⟩ := measM_ok _ _ _ q
          simp only at k1 k2 k3 k4
          have hm : mulOk i b = true := mulOk_of (okP.small h1 h2) (okP.small k3 k4)
          simp only [enc, isNon]
          walk_at "ev"
          by_cases c1 : a = 400
          · subst c1
            simp only [beq_self_eq_true, true_or]
            walk_at "ev"
            simp only [D.top, e]
          · have c1' : (a == 400) = false := by simpa using c1
            simp only [c1', c1, false_or]
            walk_at "ev"
            rw [b_mul hm]
            walk_at "ev"
            by_cases c2 : i * b > big
            · have c2' : big < i * b := c2
              simp only [c2', decide_true, c2]
              walk_at "ev"
              simp only [D.top, e]
            · have c2' : ¬ big < i * b := c2
              simp only [c2', decide_false, c2]
              walk_at "ev"
              rw [b_mul hm]
              walk_at "ev"
              simp only [D.top, tops, Nat.max_self, e]
      · simp only [h1, h2, decide_true, decide_false, Bool.and_false, and_false]
        walk_at "ev"
        simp only [D.top, e, enc]
    · simp only [h1, decide_false, Bool.false_and, false_and]
      walk_at "ev"
      simp only [D.top, e, enc]
  | ref _ => cases hc
  | _ =>
    simp only [btw, multM]
    walk_at "ev"
    simp only [D.top, e, enc]
theorem pos_two {n : Nat} {a b : D} : ((([a, b] : List D).length : Int) == 2) = true := by simp
theorem isG_flat (w : Str) : flat (.str w) = true := rfl

theorem measured_eq : ∀ (k : Nat) (d : D) (st : Sto) (n : Nat), pur d = true → Wf st → callN gl P (n + 2 * k + 3) 3 [d, .int k] st = .ok (enc (measM k d)) st
  | 0, d, st, n, hd, w => by
    rw [call_eq p3 rfl]
    have e := trim_id (t := 0) w (Nat.zero_le _)
    simp only [b3]
    walk_at "ev"
    have : (((0 : Nat) : Int) == 0) = true := rfl
    simp only [this]
    walk_at "ev"
    simp only [D.top, e, measM, enc]
  | k + 1, d, st, n, hd, w => by
    have e := trim_id (t := 0) w (Nat.zero_le _)
    have hk : (((k + 1 : Nat) : Int) == 0) = false := by simp; omega
    have lv : n + 2 * (k + 1) + 3 = (n + 2 * k + 4) + 1 := by omega
    rw [lv, call_eq p3 rfl]
    simp only [b3]
    walk_at "ev"
    simp only [hk]
    walk_at "ev"
    rw [is_between_eq w (pur_le hd _)]
    walk_at "ev"
    cases d with
    | int i =>
      simp only [btw, measM]
      by_cases h1 : 0 - big ≤ i
      · by_cases h2 : i ≤ big
        · have hz : [D.int 1, D.int 1].length ≤ sizeLine := by show 2 ≤ sizeLine; decide
          simp only [h1, h2, decide_true, Bool.and_self, and_self]
          walk_at "ev"
          simp only [D.top, tops, Nat.max_self, e, enc]
        · simp only [h1, h2, decide_true, decide_false, Bool.and_false, and_false]
          walk_at "ev"
          simp only [isi_eq (pur_le hd _), tyB]
          walk_at "ev"
          simp only [D.top, e, enc]
      · simp only [h1, decide_false, Bool.false_and, false_and]
        walk_at "ev"
        simp only [isi_eq (pur_le hd _), tyB]
        walk_at "ev"
        simp only [D.top, e, enc]
    | ref _ => cases hd
    | tup xs =>
      have hp : purs xs = true := by simpa [pur] using hd
      simp only [btw]
      walk_at "ev"
      simp only [isi_eq (pur_le hd _), tyB]
      walk_at "ev"
      rw [c_eqnil hp]
      walk_at "ev"
      cases xs with
      | nil =>
        simp only [List.isEmpty]
        walk_at "ev"
        simp only [D.top, e, enc, measM]
      | cons x r =>
        simp only [List.isEmpty]
        walk_at "ev"
        simp only [purs, Bool.and_eq_true] at hp
        simp only [isi_eq (pur_le hp.1 _)]
        walk_at "ev"
        cases x with
        | str t =>
          simp only [tyB]
          walk_at "ev"
          rw [c_in (ys := [.str "seq", .str "par"]) rfl rfl]
          walk_at "ev"
          have hg : ([D.str "seq", D.str "par"].any fun y => eqF y (.str t)) = isG (.str t) := rfl
          have hm : ([D.str "repeat", D.str "copies"].any fun y => eqF y (.str t)) = isM (.str t) := rfl
          rw [hg]
          match r, hp with
          | [], hp =>
            have l1 : (((([D.str t] : List D).length : Nat) : Int) == 2) = false := rfl
            have l2 : (((([D.str t] : List D).length : Nat) : Int) == 3) = false := rfl
            cases q1 : isG (.str t) <;> cases q2 : isM (.str t)
            all_goals
              simp only [l1]
              walk_at "ev"
              rw [c_in (ys := [.str "repeat", .str "copies"]) rfl rfl, hm, q2]
              walk_at "ev"
              try (simp only [l2]; walk_at "ev")
              simp only [D.top, e, enc, measM]
          | [y], hp =>
            have l1 : (((([D.str t, y] : List D).length : Nat) : Int) == 2) = true := rfl
            have l2 : (((([D.str t, y] : List D).length : Nat) : Int) == 3) = false := rfl
            cases q1 : isG (.str t)
            · simp only [l1]
              walk_at "ev"
              rw [c_in (ys := [.str "repeat", .str "copies"]) rfl rfl, hm]
              walk_at "ev"
              cases q2 : isM (.str t)
              all_goals
                walk_at "ev"
                try (simp only [l2]; walk_at "ev")
                simp only [D.top, e, enc, measM, q1, Bool.false_eq_true, if_false]
            · simp only [l1]
              walk_at "ev"
              have hy : pur y = true := by simp only [purs, Bool.and_eq_true] at hp; exact hp.2.1
              rw [measured_parts_eq (n := n + 2 * k + 3) w (fun x hx => measured_eq k x st n hx w) hy]
              walk_at "ev"
              simp only [top_enc, e, measM, q1, if_true]
          | [c, y], hp =>
            have l1 : (((([D.str t, c, y] : List D).length : Nat) : Int) == 2) = false := rfl
            have l2 : (((([D.str t, c, y] : List D).length : Nat) : Int) == 3) = true := rfl
            have hy : pur c = true ∧ pur y = true := by simp only [purs, Bool.and_eq_true] at hp; exact ⟨hp.2.1, hp.2.2.1⟩
            have fin2 : (if isM (.str t) = true then Res.ok (enc (multM (measM k) c y)) st else Res.ok D.non st) = Res.ok (enc (measM (k + 1) (.tup [.str t, c, y]))) st := by
              simp only [measM]
              cases isM (.str t) <;> rfl
            cases q1 : isG (.str t)
            all_goals
              simp only [l1]
              walk_at "ev"
              rw [c_in (ys := [.str "repeat", .str "copies"]) rfl rfl, hm]
              walk_at "ev"
              rw [← fin2]
              cases q2 : isM (.str t)
              · walk_at "ev"
                simp only [D.top, e]
              · walk_at "ev"
                simp only [l2]
                walk_at "ev"
                rw [measured_multiple_eq (n := n + 2 * k + 1) w hy.1 (measured_eq k y st n hy.2 w)]
                walk_at "ev"
                simp only [top_enc, e]
          | a :: b :: c :: r, hp =>
            have l1 : ((((D.str t :: a :: b :: c :: r).length : Nat) : Int) == 2) = false := by simp; omega
            have l2 : ((((D.str t :: a :: b :: c :: r).length : Nat) : Int) == 3) = false := by simp; omega
            cases q1 : isG (.str t) <;> cases q2 : isM (.str t)
            all_goals
              simp only [l1]
              walk_at "ev"
              rw [c_in (ys := [.str "repeat", .str "copies"]) rfl rfl, hm, q2]
              walk_at "ev"
              try (simp only [l2]; walk_at "ev")
              simp only [D.top, e, enc, measM]
        | ref _ => cases hp.1
        | _ =>
          simp only [tyB]
          walk_at "ev"
          simp only [D.top, e, enc, measM]
    | _ =>
      simp only [btw, measM]
      walk_at "ev"
      simp only [isi_eq (pur_le hd _), tyB]
      walk_at "ev"
      simp only [D.top, e, enc]
end Qk04

namespace Qk04
open PySem RP
local macro_rules | `(tactic| walk_at "ev") => `(tactic| simp only [e_v, lkV_some, lkG_some, e_k, e_g, e_tup, e_lst, e_bin, e_cmp, e_chain, e_neg, e_not, e_and, e_or, e_ife, e_ix, e_call, e_bi, e_isi, e_mt, e_sl, e_rev, e_comp, es_nil, es_cons, i_seq, i_rng, a_nm, a_two, a_tup, a_sub, s_ex', s_asg', s_two', s_aug', s_ret', s_ife', s_for', s_skip', ss_nil, ss_cons, it_tup, RP.neg_int, putTo_some, bi_len_tup, b_add, b_sub, c_lt, c_le, c_gt, c_ge, c_eqi, c_nei, c_isN, c_notN, isB_bl, sz0, sz1, sz2, sz3, sz4, sz5, sz6, sz7, ix0, ix1, ix2, List.map_cons, List.map_nil, List.cons_append, List.nil_append, Nat.sub_self, List.replicate, List.getElem?_cons_zero, List.getElem?_cons_succ, List.set_cons_zero, List.set_cons_succ, Res.bind_ok, nxt_nx, nxt_rt, br_some, tru_bl, fin_rt, fin_nx, if_true, if_false, Bool.false_eq_true, gg0, gg1, gg2, gg3, gg4, gg5, gg6])
local macro_rules | `(tactic| walk_at "end") => `(tactic| simp [nxt_nx, nxt_rt, ss_nil, br_some, tru_bl, fin_rt, fin_nx, D.top, tops, *])

def isJob (d : D) : Bool := (measM 13 d).isSome
theorem is_job_eq {n : Nat} {st : Sto} {d : D} (hd : pur d = true) (w : Wf st) : callN gl P (n + 30) 6 [d] st = .ok (.bl (isJob d)) st := by
  rw [call_eq (n := n + 29) p6 rfl]
  have e := trim_id (t := 0) w (Nat.zero_le _)
  simp only [b6]
  walk_at "ev"
  have h := measured_eq 13 d st n hd w
  rw [show (((13 : Nat) : Int)) = 13 from rfl, show n + 2 * 13 + 3 = n + 29 from rfl] at h
  rw [h]
  walk_at "ev"
  unfold isJob
  cases measM 13 d with
  | none => simp only [enc, isNon, D.top, e, Option.isSome]; rfl
  | some p => obtain ⟨a, b⟩ := p; simp only [enc, isNon, D.top, e, Option.isSome]; rfl
theorem check_job_eq {n : Nat} {st : Sto} {d : D} (hd : pur d = true) (w : Wf st) (hj : isJob d = true) : callN gl P (n + 31) 7 [d] st = .ok .non st := by
  rw [call_eq (n := n + 30) p7 rfl]
  have e := trim_id (t := 0) w (Nat.zero_le _)
  simp only [b7]
  walk_at "ev"
  rw [is_job_eq hd w, hj]
  walk_at "ev"
  rw [e]
/-! ### counting steps, by the program and by the law -/
theorem foldM_sum {f : D → Option (Int × Int)} : ∀ (xs : List D) (n s : Int) (a b : Int), foldM f xs n s = some (a, b) → ∃ ps : List (Int × Int), xs.map f = ps.map some ∧ a = n + (ps.map (·.1)).sum ∧ b = s + (ps.map (·.2)).sum
  | [], n, s, a, b, h => by cases h; exact ⟨[], rfl, by simp, by simp⟩
  | x :: xs, n, s, a, b, h => by
    simp only [foldM] at h
    cases q : f x with
    | none => rw [q] at h; cases h
    | some r =>
      obtain ⟨u, v⟩ := r
      rw [q] at h
      simp only at h
      split at h
      · cases h
      · obtain ⟨ps, h1, h2, h3⟩ := foldM_sum xs _ _ a b h
        refine ⟨(u, v) :: ps, by simp [h1, q], by simp [h2]; omega, by simp [h3]; omega⟩
theorem intsOf_map : ∀ ns : List Int, intsOf (ns.map D.int) = some ns
  | [] => rfl
  | n :: r => by simp [intsOf, intsOf_map r]
theorem map_get {f : D → Option (Int × Int)} {g : Int × Int → Int} : ∀ {xs : List D} {ps : List (Int × Int)}, xs.map f = ps.map some → xs.map (fun x => match f x with | some p => D.int (g p) | none => .non) = (ps.map g).map D.int
  | [], [], _ => rfl
  | [], _ :: _, h => by cases h
  | _ :: _, [], h => by cases h
  | x :: xs, p :: ps, h => by
    simp only [List.map_cons, List.cons.injEq] at h
    simp only [List.map_cons, h.1, map_get h.2]
/-- the shape of what is measured -/
theorem measM_shape : ∀ {k : Nat} {d : D} {a b : Int}, measM (k + 1) d = some (a, b) →
    (∃ i, d = .int i ∧ a = 1 ∧ b = 1) ∨ (∃ t xs, d = .tup [.str t, .tup xs] ∧ isG (.str t) = true ∧ xs.length ≤ 400 ∧ foldM (measM k) xs 1 0 = some (a, b)) ∨
    ∃ t i x u v, d = .tup [.str t, .int i, x] ∧ isM (.str t) = true ∧ isG (.str t) = false ∧ 0 ≤ i ∧ i ≤ big ∧ measM k x = some (u, v) ∧ u ≠ 400 ∧ i * v ≤ big ∧ a = 1 + u ∧ b = i * v := by
  intro k d a b h
  unfold measM at h
  split at h
  · omega
  · rename_i hk
    split at h
    · cases h; exact .inl ⟨_, rfl, rfl, rfl⟩
    · cases h
  · rename_i k' t x hk
    obtain rfl : k' = k := by omega
    split at h
    · rename_i hg
      unfold partsM at h
      split at h
      · rename_i xs
        split at h
        · cases h
        · rename_i hl
          exact .inr (.inl ⟨t, xs, rfl, hg, by omega, h⟩)
      · cases h
    · cases h
  · rename_i k' t c x hk
    obtain rfl : k' = k := by omega
    split at h
    · rename_i hm
      unfold multM at h
      split at h
      · rename_i i
        split at h
        · rename_i hi
          split at h
          · rename_i u v q
            split at h
            · cases h
            · rename_i c
              cases h
              refine .inr (.inr ⟨t, i, x, u, v, rfl, hm, ?_, hi.1, hi.2, q, by omega, by omega, rfl, rfl⟩)
              cases hg : isG (.str t)
              · rfl
              · simp [isG, isM, eqF] at hg hm
                rcases hg with hg | hg <;> rcases hm with hm | hm <;> (rw [← hg] at hm; revert hm; decide)
          · cases h
        · cases h
      · cases h
    · cases h
  · cases h
end Qk04

namespace Qk04
open PySem RP
local macro_rules | `(tactic| walk_at "ev") => `(tactic| simp only [e_v, lkV_some, lkG_some, e_k, e_g, e_tup, e_lst, e_bin, e_cmp, e_chain, e_neg, e_not, e_and, e_or, e_ife, e_ix, e_call, e_bi, e_isi, e_mt, e_sl, e_rev, e_comp, es_nil, es_cons, i_seq, i_rng, a_nm, a_two, a_tup, a_sub, s_ex', s_asg', s_two', s_aug', s_ret', s_ife', s_for', s_skip', ss_nil, ss_cons, it_tup, RP.neg_int, putTo_some, bi_len_tup, b_add, b_sub, c_lt, c_le, c_gt, c_ge, c_eqi, c_nei, c_isN, c_notN, isB_bl, sz0, sz1, sz2, sz3, sz4, sz5, sz6, sz7, ix0, ix1, ix2, List.map_cons, List.map_nil, List.cons_append, List.nil_append, Nat.sub_self, List.replicate, List.getElem?_cons_zero, List.getElem?_cons_succ, List.set_cons_zero, List.set_cons_succ, Res.bind_ok, nxt_nx, nxt_rt, br_some, tru_bl, fin_rt, fin_nx, if_true, if_false, Bool.false_eq_true, gg0, gg1, gg2, gg3, gg4, gg5, gg6])
local macro_rules | `(tactic| walk_at "end") => `(tactic| simp [nxt_nx, nxt_rt, ss_nil, br_some, tru_bl, fin_rt, fin_nx, D.top, tops, *])

def stepOf (k : Nat) (x : D) : D := match measM k x with | some p => .int p.2 | none => .non
def nodeOf (k : Nat) (x : D) : D := match measM k x with | some p => .int p.1 | none => .non
theorem top_stepOf (k : Nat) (x : D) : (stepOf k x).top = 0 := by unfold stepOf; split <;> rfl
theorem top_nodeOf (k : Nat) (x : D) : (nodeOf k x).top = 0 := by unfold nodeOf; split <;> rfl
theorem all_some {f : D → Option (Int × Int)} : ∀ {xs : List D} {ps : List (Int × Int)}, xs.map f = ps.map some → ∀ x ∈ xs, ∃ p, f x = some p
  | x :: xs, p :: ps, h, y, hy => by
    simp only [List.map_cons, List.cons.injEq] at h
    rcases List.mem_cons.mp hy with rfl | hy
    · exact ⟨p, h.1⟩
    · exact all_some h.2 y hy
theorem small_len {n : Nat} (h : n ≤ 400) : n ≤ sizeLine := Nat.le_trans h (by decide)
/-- the sum over the parts -/
theorem comp_steps {cf : CallF} {elt : E} {st : Sto} (w : Wf st) {env : RP.Env} {i k : Nat} {xs : List D} (g : Nat → D → D) (ht : ∀ k x, (g k x).top = 0) (hl : xs.length ≤ 400)
    (h : ∀ x ∈ xs, ∀ st' : Sto, Wf st' → ev gl cf elt (env.set i (some x)) st' = .ok (g k x) st') :
    compLoop (asg gl cf (.nm i)) (ev gl cf (.k (.bl true))) (ev gl cf elt) none st.length env xs (st ++ [.lst []]) = .ok () (st ++ [.lst (xs.map (g k))]) := by
  have q := comp_map (gl := gl) (cf := cf) (elt := elt) (env := env) (i := i) w (g k) xs [] (fun x hx => ⟨by rw [ht]; exact Nat.zero_le _, fun acc' w' => h x hx _ w'⟩) (Nat.zero_le _) (by simpa using small_len hl)
  simpa using q
end Qk04

namespace Qk04
open PySem RP
local macro_rules | `(tactic| walk_at "ev") => `(tactic| simp only [e_v, lkV_some, lkG_some, e_k, e_g, e_tup, e_lst, e_bin, e_cmp, e_chain, e_neg, e_not, e_and, e_or, e_ife, e_ix, e_call, e_bi, e_isi, e_mt, e_sl, e_rev, e_comp, es_nil, es_cons, i_seq, i_rng, a_nm, a_two, a_tup, a_sub, s_ex', s_asg', s_two', s_aug', s_ret', s_ife', s_for', s_skip', ss_nil, ss_cons, it_tup, RP.neg_int, putTo_some, bi_len_tup, b_add, b_sub, c_lt, c_le, c_gt, c_ge, c_eqi, c_nei, c_isN, c_notN, isB_bl, sz0, sz1, sz2, sz3, sz4, sz5, sz6, sz7, ix0, ix1, ix2, List.map_cons, List.map_nil, List.cons_append, List.nil_append, Nat.sub_self, List.replicate, List.getElem?_cons_zero, List.getElem?_cons_succ, List.set_cons_zero, List.set_cons_succ, Res.bind_ok, nxt_nx, nxt_rt, br_some, tru_bl, fin_rt, fin_nx, if_true, if_false, Bool.false_eq_true, gg0, gg1, gg2, gg3, gg4, gg5, gg6])
local macro_rules | `(tactic| walk_at "end") => `(tactic| simp [nxt_nx, nxt_rt, ss_nil, br_some, tru_bl, fin_rt, fin_nx, D.top, tops, *])

end Qk04

namespace Qk04
open PySem RP
local macro_rules | `(tactic| walk_at "ev") => `(tactic| simp only [e_v, lkV_some, lkG_some, e_k, e_g, e_tup, e_lst, e_bin, e_cmp, e_chain, e_neg, e_not, e_and, e_or, e_ife, e_ix, e_call, e_bi, e_isi, e_mt, e_sl, e_rev, e_comp, es_nil, es_cons, i_seq, i_rng, a_nm, a_two, a_tup, a_sub, s_ex', s_asg', s_two', s_aug', s_ret', s_ife', s_for', s_skip', ss_nil, ss_cons, it_tup, RP.neg_int, putTo_some, bi_len_tup, b_add, b_sub, c_lt, c_le, c_gt, c_ge, c_eqi, c_nei, c_isN, c_notN, isB_bl, sz0, sz1, sz2, sz3, sz4, sz5, sz6, sz7, ix0, ix1, ix2, List.map_cons, List.map_nil, List.cons_append, List.nil_append, Nat.sub_self, List.replicate, List.getElem?_cons_zero, List.getElem?_cons_succ, List.set_cons_zero, List.set_cons_succ, Res.bind_ok, nxt_nx, nxt_rt, br_some, tru_bl, fin_rt, fin_nx, if_true, if_false, Bool.false_eq_true, gg0, gg1, gg2, gg3, gg4, gg5, gg6])
local macro_rules | `(tactic| walk_at "end") => `(tactic| simp [nxt_nx, nxt_rt, ss_nil, br_some, tru_bl, fin_rt, fin_nx, D.top, tops, *])

theorem law_take_eq {n m p : Nat} {st : Sto} {o : O} {q : Int} (w : Wf st) (hp : st[p]? = some o) (ho : Pot m o) (hm : m < 2 ^ 60) (hq : 0 < q) (hq2 : q < 2 ^ 3000) :
    ∃ r o', callN gl P (n + 1) 17 [.ref p, .int q] st = .ok (.int r) (st.set p o') ∧ 0 ≤ r ∧ r < q ∧ Pot (m + 1) o' := by
  obtain ⟨a, b, c, rfl, h1, h2, h3, h4, h5, h6⟩ := ho.ex
  rw [call_eq p17 rfl]
  simp only [b17]
  walk_at "ev"
  have x0 : ixD (.ref p) (.int 0) st = .ok (.int a) st := ixL (i := 0) hp rfl
  have x1 : ixD (.ref p) (.int 1) st = .ok (.int b) st := ixL (i := 1) hp rfl
  have x2 : ixD (.ref p) (.int 2) st = .ok (.int c) st := ixL (i := 2) hp rfl
  rw [x0]
  walk_at "ev"
  have hdq : divOk q = true := divOk_of hq (natAbs_lt (Int.le_of_lt hq) hq2 (by decide))
  by_cases ha : 0 < a
  · simp only [ha, decide_true]
    walk_at "ev"
    rw [x0]
    walk_at "ev"
    rw [b_mod hq]
    walk_at "ev"
    rw [x0]
    walk_at "ev"
    rw [b_fdiv hdq]
    walk_at "ev"
    have pa : putIx (.ref p) (.int 0) (.int (a / q)) st = some (st.set p (.lst [.int (a / q), .int b, .int c])) := put_at (i := 0) hp (by simp) (by show 3 ≤ sizeLine; decide)
    rw [pa]
    walk_at "ev"
    refine ⟨a % q, .lst [.int (a / q), .int b, .int c], ?_, Int.emod_nonneg _ (by omega), Int.emod_lt_of_pos _ hq, ⟨_, _, _, rfl, Int.ediv_nonneg h1 (by omega), ?_, h3, h4, h5, by omega⟩⟩
    · have t := trim_len (st := st) (st' := st.set p (.lst [.int (a / q), .int b, .int c])) (more := []) (t := 0) (wf_set w (Nat.zero_le _)) (by simp) (Nat.zero_le _)
      rw [List.append_nil] at t
      simp only [D.top, t]
    · exact Int.lt_of_le_of_lt (Int.ediv_le_self _ h1) h2
  · simp only [ha, decide_false]
    walk_at "ev"
    rw [x2]
    walk_at "ev"
    have pa : putIx (.ref p) (.int 2) (.int (c + 1)) st = some (st.set p (.lst [.int a, .int b, .int (c + 1)])) := put_at (i := 2) hp (by simp) (by show 3 ≤ sizeLine; decide)
    rw [pa]
    walk_at "ev"
    have hp' := get_set (o' := .lst [.int a, .int b, .int (c + 1)]) hp
    have y1 : ixD (.ref p) (.int 1) (st.set p (.lst [.int a, .int b, .int (c + 1)])) = .ok (.int b) (st.set p (.lst [.int a, .int b, .int (c + 1)])) := ixL (i := 1) hp' rfl
    have y2 : ixD (.ref p) (.int 2) (st.set p (.lst [.int a, .int b, .int (c + 1)])) = .ok (.int (c + 1)) (st.set p (.lst [.int a, .int b, .int (c + 1)])) := ixL (i := 2) hp' rfl
    have hc : c + 1 < 2 ^ 61 := by
      have : (m : Int) < 2 ^ 60 := by exact_mod_cast hm
      omega
    have m1 : mulOk 98317 (c + 1) = true := mulOk_of (natAbs_lt (k := 20) (by decide) (by decide) (by decide)) (natAbs_lt (k := 61) (by omega) hc (by decide))
    have m2 : mulOk 37 (c + 1) = true := mulOk_of (natAbs_lt (k := 20) (by decide) (by decide) (by decide)) (natAbs_lt (k := 61) (by omega) hc (by decide))
    have k1 : powOk (b + 98317 * (c + 1)) 3 = true := powOk_of (natAbs_lt (k := 90) (by omega) (by omega) (by decide)) (by decide) (by decide)
    rw [y1]
    walk_at "ev"
    rw [y2]
    walk_at "ev"
    rw [b_mul m1]
    walk_at "ev"
    rw [b_pow k1]
    walk_at "ev"
    rw [b_mod (by decide)]
    walk_at "ev"
    generalize hv : (b + 98317 * (c + 1)) ^ (3 : Int).toNat % 2305843009213693921 = v
    have v1 : 0 ≤ v := by rw [← hv]; exact Int.emod_nonneg _ (by decide)
    have v2 : v < 2305843009213693921 := by rw [← hv]; exact Int.emod_lt_of_pos _ (by decide)
    rw [y1]
    walk_at "ev"
    rw [b_mod (by decide)]
    walk_at "ev"
    rw [y2]
    walk_at "ev"
    rw [b_mul m2]
    walk_at "ev"
    have k2 : powOk (v + b % 65521 + 37 * (c + 1)) 5 = true := powOk_of (natAbs_lt (k := 90) (by omega) (by omega) (by decide)) (by decide) (by decide)
    rw [b_pow k2]
    walk_at "ev"
    rw [b_mod (by decide)]
    walk_at "ev"
    generalize hu : (v + b % 65521 + 37 * (c + 1)) ^ (5 : Int).toNat % 2305843009213693907 = u
    have hd2 : divOk 2048 = true := divOk_of (by decide) (natAbs_lt (k := 20) (by decide) (by decide) (by decide))
    rw [b_fdiv hd2]
    walk_at "ev"
    rw [b_mod hq]
    walk_at "ev"
    refine ⟨u / 2048 % q, .lst [.int a, .int b, .int (c + 1)], ?_, Int.emod_nonneg _ (by omega), Int.emod_lt_of_pos _ hq, ⟨_, _, _, rfl, h1, h2, h3, h4, by omega, by omega⟩⟩
    have t := trim_len (st := st) (st' := st.set p (.lst [.int a, .int b, .int (c + 1)])) (more := []) (t := 0) (wf_set w (Nat.zero_le _)) (by simp) (Nat.zero_le _)
    rw [List.append_nil] at t
    simp only [D.top, t]

theorem ints_get {ns : List Int} {k : Nat} (h : k < ns.length) : (ns.map D.int)[k]? = some (.int ns[k]) := by simp [h]
theorem law_pot_eq {n k : Nat} {st : Sto} {ns : List Int} (w : Wf st) (hs : st[0]? = some (.fro (ns.map D.int))) (hk : k ≤ 1000) :
    ∃ o, callN gl P (n + 1) 16 [.ref 0, .int (k : Int)] st = .ok (.ref st.length) (st ++ [o]) ∧ Pot 0 o := by
  have pw : powOk 10 60 = true := powOk_of (natAbs_lt (k := 20) (by decide) (by decide) (by decide)) (by decide) (by decide)
  have pw2 : powOk (10 ^ (60 : Int).toNat) 14 = true := powOk_of (by decide) (by decide) (by decide)
  have pw3 : powOk 10 18 = true := powOk_of (natAbs_lt (k := 20) (by decide) (by decide) (by decide)) (by decide) (by decide)
  have big0 : (0 : Int) < (10 ^ (60 : Int).toNat) ^ (14 : Int).toNat := by decide
  have big1 : ((10 : Int) ^ (60 : Int).toNat) ^ (14 : Int).toNat < 2 ^ 3000 := by decide
  have mk : mulOk 6151 (k : Int) = true := mulOk_of (natAbs_lt (k := 20) (by decide) (by decide) (by decide)) (natAbs_lt (k := 20) (by omega) (by omega) (by decide))
  -- from the cell on
  have rest : ∀ cell : Int, 0 ≤ cell → cell < (10 ^ (60 : Int).toNat) ^ (14 : Int).toNat → ∃ o, (evSs gl (callN gl P n) (.cons (.asg (.nm 3) (.bin .mod (.bin .pow (.bin .add (.bin .add (.bin .mod (.v 2) (.k (.int (2147483587)))) (.bin .mul (.k (.int (6151))) (.v 1))) (.k (.int (3)))) (.k (.int (5)))) (.k (.int (2305843009213693951))))) (.cons (.ret (.lst (.cons (.bin .mul (.v 2) (.bi .int (.cons (.cmp .ge (.v 2) (.bin .pow (.k (.int (10))) (.k (.int (18))))) .nil))) (.cons (.v 3) (.cons (.k (.int (0))) .nil))))) .nil)) [some (.ref 0), some (.int (k : Int)), some (.int cell), none] st).bind (fin st.length) = .ok (.ref st.length) (st ++ [o]) ∧ Pot 0 o := by
    intro cell c0 c1
    walk_at "ev"
    rw [b_mod (by decide)]
    walk_at "ev"
    rw [b_mul mk]
    walk_at "ev"
    have e0 := Int.emod_nonneg cell (show (2147483587 : Int) ≠ 0 by decide)
    have e1 := Int.emod_lt_of_pos cell (show (0 : Int) < 2147483587 by decide)
    have k1 : powOk (cell % 2147483587 + 6151 * (k : Int) + 3) 5 = true := powOk_of (natAbs_lt (k := 90) (by omega) (by omega) (by decide)) (by decide) (by decide)
    rw [b_pow k1]
    walk_at "ev"
    rw [b_mod (by decide)]
    walk_at "ev"
    generalize hv : (cell % 2147483587 + 6151 * (k : Int) + 3) ^ (5 : Int).toNat % 2305843009213693951 = v
    have v1 : 0 ≤ v := by rw [← hv]; exact Int.emod_nonneg _ (by decide)
    have v2 : v < 2305843009213693951 := by rw [← hv]; exact Int.emod_lt_of_pos _ (by decide)
    rw [b_pow pw3]
    walk_at "ev"
    generalize hb : decide ((10 : Int) ^ (18 : Int).toNat ≤ cell) = bb
    have ib : bi .int [.bl bb] st = .ok (.int (if bb then 1 else 0)) st := rfl
    rw [ib]
    walk_at "ev"
    have mb : mulOk cell (if bb then 1 else 0) = true := mulOk_of (natAbs_lt (k := 3000) c0 (Int.lt_trans c1 big1) (by decide)) (by cases bb <;> decide)
    rw [b_mul mb]
    walk_at "ev"
    refine ⟨.lst [.int (cell * (if bb then 1 else 0)), .int v, .int 0], ?_, ⟨_, _, _, rfl, ?_, ?_, v1, by omega, by decide, by decide⟩⟩
    · have t : trim st.length (D.top (.ref st.length)) (st ++ [.lst [.int (cell * (if bb then 1 else 0)), .int v, .int 0]]) = st ++ [.lst [.int (cell * (if bb then 1 else 0)), .int v, .int 0]] := by
        unfold trim
        rw [if_neg fun h => absurd h.1 (by simp [D.top])]
      rw [t]
    · cases bb <;> simp [c0]
    · cases bb
      · simp; decide
      · simpa using Int.lt_trans c1 big1
  rw [call_eq p16 rfl]
  simp only [b16]
  rw [ss_cons]
  walk_at "ev"
  rw [bi_len_ref hs]
  walk_at "ev"
  simp only [O.items, List.length_map]
  by_cases hl : k < ns.length
  · have hl' : ((k : Int) < (ns.length : Int)) := by omega
    simp only [hl', decide_true]
    walk_at "ev"
    rw [ixL (i := k) (d := .int ns[k]) hs (ints_get hl)]
    walk_at "ev"
    have ab : bi .abs [.int ns[k]] st = .ok (.int (if ns[k] < 0 then -ns[k] else ns[k])) st := rfl
    rw [ab]
    walk_at "ev"
    rw [b_pow pw]
    walk_at "ev"
    rw [b_pow pw2]
    walk_at "ev"
    rw [b_mod big0]
    walk_at "ev"
    have := rest ((if ns[k] < 0 then -ns[k] else ns[k]) % (10 ^ (60 : Int).toNat) ^ (14 : Int).toNat) (Int.emod_nonneg _ (by omega)) (Int.emod_lt_of_pos _ big0)
    rw [ss_cons] at this
    exact this
  · have hl' : ¬ ((k : Int) < (ns.length : Int)) := by omega
    simp only [hl', decide_false]
    walk_at "ev"
    have := rest 0 (by decide) big0
    rw [ss_cons] at this
    exact this
end Qk04

namespace Qk04
open PySem RP
local macro_rules | `(tactic| walk_at "ev") => `(tactic| simp only [e_v, lkV_some, lkG_some, e_k, e_g, e_tup, e_lst, e_bin, e_cmp, e_chain, e_neg, e_not, e_and, e_or, e_ife, e_ix, e_call, e_bi, e_isi, e_mt, e_sl, e_rev, e_comp, es_nil, es_cons, i_seq, i_rng, a_nm, a_two, a_tup, a_sub, s_ex', s_asg', s_two', s_aug', s_ret', s_ife', s_for', s_skip', ss_nil, ss_cons, it_tup, RP.neg_int, putTo_some, bi_len_tup, b_add, b_sub, c_lt, c_le, c_gt, c_ge, c_eqi, c_nei, c_isN, c_notN, isB_bl, sz0, sz1, sz2, sz3, sz4, sz5, sz6, sz7, ix0, ix1, ix2, List.map_cons, List.map_nil, List.cons_append, List.nil_append, Nat.sub_self, List.replicate, List.getElem?_cons_zero, List.getElem?_cons_succ, List.set_cons_zero, List.set_cons_succ, Res.bind_ok, nxt_nx, nxt_rt, br_some, tru_bl, fin_rt, fin_nx, if_true, if_false, Bool.false_eq_true, gg0, gg1, gg2, gg3, gg4, gg5, gg6])
local macro_rules | `(tactic| walk_at "end") => `(tactic| simp [nxt_nx, nxt_rt, ss_nil, br_some, tru_bl, fin_rt, fin_nx, D.top, tops, *])

/-- a draw, from a store with a pot -/
theorem take_of {n m p c : Nat} {st : Sto} {oc : O} {q : Int} (h : Pots st p m c oc) (hm : m < 2 ^ 60) (hq : 0 < q) (hq2 : q < 2 ^ 3000) :
    ∃ r o', callN gl P (n + 1) 17 [.ref p, .int q] st = .ok (.int r) (st.set p o') ∧ 0 ≤ r ∧ r < q ∧ Pot (m + 1) o' := by
  obtain ⟨o, h1, h2⟩ := h.pot
  exact law_take_eq h.wf h1 h2 hm hq hq2
theorem trim_set {st : Sto} {p : Nat} {o : O} {m : Nat} {more : Sto} (w : Wf st) (ho : Pot m o) : trim st.length 0 (st.set p o ++ more) = st.set p o :=
  trim_len (wf_set w (by rw [ho.top]; exact Nat.zero_le _)) (by simp) (Nat.zero_le _)
theorem trim_set' {st : Sto} {p : Nat} {o : O} {m : Nat} (w : Wf st) (ho : Pot m o) : trim st.length 0 (st.set p o) = st.set p o := by
  have := trim_set (p := p) (more := []) w ho
  simpa using this
theorem ofNat_lt {r : Int} {k : Nat} (h0 : 0 ≤ r) (h : r < k) : ∃ i : Nat, r = i ∧ i < k := ⟨r.toNat, by omega, by omega⟩
theorem ten30 : (10 : Int) ^ (30 : Int).toNat = big := by decide
theorem ten15 : (10 : Int) ^ (15 : Int).toNat = 1000000000000000 := by decide
theorem law_step_eq {n m p c : Nat} {st : Sto} {oc : O} (h : Pots st p m c oc) (hm : m + 5 < 2 ^ 60) :
    ∃ i o', callN gl P (n + 2) 18 [.ref p] st = .ok (.int i) (st.set p o') ∧ 0 - big ≤ i ∧ i ≤ big ∧ Pot (m + 5) o' := by
  have q15 : powOk 10 15 = true := powOk_of (natAbs_lt (k := 20) (by decide) (by decide) (by decide)) (by decide) (by decide)
  have q30 : powOk 10 30 = true := powOk_of (natAbs_lt (k := 20) (by decide) (by decide) (by decide)) (by decide) (by decide)
  rw [call_eq p18 rfl]
  simp only [b18]
  walk_at "ev"
  obtain ⟨r1, o1, e1, a1, b1, p1⟩ := take_of (n := n) (q := 14) h (by omega) (by decide) (by decide)
  have h1 := h.set p1
  rw [e1]
  walk_at "ev"
  by_cases c0 : r1 = 0
  · subst c0
    simp only [beq_self_eq_true]
    walk_at "ev"
    exact ⟨0, o1, by simp only [D.top, trim_set' h.wf p1], by decide, by decide, p1.mono (by omega)⟩
  · have c0' : (r1 == 0) = false := by simpa using c0
    simp only [c0']
    walk_at "ev"
    by_cases c1 : r1 = 1
    · subst c1
      simp only [beq_self_eq_true]
      walk_at "ev"
      try (simp only [b_pow q15, b_pow q30, ten15, ten30]; walk_at "ev")
      obtain ⟨r2, o2, e2, a2, b2, p2⟩ := take_of (n := n) (q := 1000000000000000) h1 (by omega) (by decide) (by decide)
      have h2 := h1.set p2
      rw [List.set_set] at e2 h2
      rw [e2]
      walk_at "ev"
      rw [b_mul (mulOk_of (natAbs_lt (k := 60) a2 (by omega) (by decide)) (natAbs_lt (k := 60) (by decide) (by decide) (by decide)))]
      walk_at "ev"
      try (simp only [b_pow q15, b_pow q30, ten15, ten30]; walk_at "ev")
      obtain ⟨r3, o3, e3, a3, b3, p3⟩ := take_of (n := n) (q := 1000000000000000) h2 (by omega) (by decide) (by decide)
      have h3 := h2.set p3
      rw [List.set_set] at e3 h3
      rw [e3]
      walk_at "ev"
      try (simp only [b_pow q15, b_pow q30, ten15, ten30]; walk_at "ev")
      try (simp only [b_pow q15, b_pow q30, ten15, ten30]; walk_at "ev")
      have h4 := h3.last (acc := [.int (r2 * 1000000000000000 + r3), .int (0 - (r2 * 1000000000000000 + r3)), .int big, .int (0 - big)]) (by simp [tops, D.top])
      obtain ⟨r4, o4, e4, a4, b4, p4⟩ := take_of (n := n) (q := 4) h4 (by omega) (by decide) (by decide)
      have l3 : p < (st.set p o3).length := by simpa using h.lt
      rw [set_last l3, List.set_set] at e4
      rw [e4]
      walk_at "ev"
      have ls : (st.set p o3).length = (st.set p o4).length := by simp
      obtain ⟨i, rfl, hi⟩ := ofNat_lt (k := 4) a4 b4
      have gl4 : (st.set p o4 ++ [O.lst [.int (r2 * 1000000000000000 + r3), .int (0 - (r2 * 1000000000000000 + r3)), .int big, .int (0 - big)]])[(st.set p o3).length]? = some (O.lst [.int (r2 * 1000000000000000 + r3), .int (0 - (r2 * 1000000000000000 + r3)), .int big, .int (0 - big)]) := by rw [ls]; exact get_last
      have fin4 : ∀ v : Int, ([D.int (r2 * 1000000000000000 + r3), .int (0 - (r2 * 1000000000000000 + r3)), .int big, .int (0 - big)] : List D)[i]? = some (.int v) → 0 - big ≤ v → v ≤ big →
          ∃ i_1 o', ((((ixD (.ref (st.set p o3).length) (.int (i : Int)) (st.set p o4 ++ [O.lst [.int (r2 * 1000000000000000 + r3), .int (0 - (r2 * 1000000000000000 + r3)), .int big, .int (0 - big)]])).bind fun d st => Res.ok (Fl.rt d) st).bind fun f st => nxt f st (evSs gl (callN gl P (n + 1)) Ss.nil)).bind fun f st => nxt f st (evSs gl (callN gl P (n + 1)) (.cons (.ret (.bin .sub (.call 17 (.cons (.v 0) (.cons (.k (.int (19))) .nil))) (.k (.int (9))))) .nil))).bind (fin st.length) = .ok (.int i_1) (st.set p o') ∧ 0 - big ≤ i_1 ∧ i_1 ≤ big ∧ Pot (m + 5) o' := fun v hv v1 v2 => by
        rw [ixL gl4 hv]
        walk_at "ev"
        exact ⟨v, o4, by simp only [D.top, trim_set h.wf p4], v1, v2, p4.mono (by omega)⟩
      match i, hi with
      | 0, _ => exact fin4 _ rfl (by unfold big; omega) (by unfold big; omega)
      | 1, _ => exact fin4 _ rfl (by unfold big; omega) (by unfold big; omega)
      | 2, _ => exact fin4 _ rfl (by unfold big; omega) (by unfold big; omega)
      | 3, _ => exact fin4 _ rfl (by unfold big; omega) (by unfold big; omega)
    · have c1' : (r1 == 1) = false := by simpa using c1
      simp only [c1']
      walk_at "ev"
      obtain ⟨r2, o2, e2, a2, b2, p2⟩ := take_of (n := n) (q := 19) h1 (by omega) (by decide) (by decide)
      rw [List.set_set] at e2
      rw [e2]
      walk_at "ev"
      exact ⟨r2 - 9, o2, by simp only [D.top, trim_set' h.wf p2], by unfold big; omega, by unfold big; omega, p2.mono (by omega)⟩
end Qk04

namespace Qk04
open PySem RP
local macro_rules | `(tactic| walk_at "ev") => `(tactic| simp only [e_v, lkV_some, lkG_some, e_k, e_g, e_tup, e_lst, e_bin, e_cmp, e_chain, e_neg, e_not, e_and, e_or, e_ife, e_ix, e_call, e_bi, e_isi, e_mt, e_sl, e_rev, e_comp, es_nil, es_cons, i_seq, i_rng, a_nm, a_two, a_tup, a_sub, s_ex', s_asg', s_two', s_aug', s_ret', s_ife', s_for', s_skip', ss_nil, ss_cons, it_tup, RP.neg_int, putTo_some, bi_len_tup, b_add, b_sub, c_lt, c_le, c_gt, c_ge, c_eqi, c_nei, c_isN, c_notN, isB_bl, sz0, sz1, sz2, sz3, sz4, sz5, sz6, sz7, ix0, ix1, ix2, List.map_cons, List.map_nil, List.cons_append, List.nil_append, Nat.sub_self, List.replicate, List.getElem?_cons_zero, List.getElem?_cons_succ, List.set_cons_zero, List.set_cons_succ, Res.bind_ok, nxt_nx, nxt_rt, br_some, tru_bl, fin_rt, fin_nx, if_true, if_false, Bool.false_eq_true, gg0, gg1, gg2, gg3, gg4, gg5, gg6])
local macro_rules | `(tactic| walk_at "end") => `(tactic| simp [nxt_nx, nxt_rt, ss_nil, br_some, tru_bl, fin_rt, fin_nx, D.top, tops, *])

/-- what the law draws -/
inductive Gen : Nat → D → Prop where
  | step {k : Nat} {i : Int} : 0 - big ≤ i → i ≤ big → Gen (k + 1) (.int i)
  | grp {k : Nat} {t : Str} {xs : List D} : isG (.str t) = true → PyData.strOk t = true → xs.length ≤ 4 → (∀ x ∈ xs, Gen k x) → Gen (k + 1) (.tup [.str t, .tup xs])
  | mul {k : Nat} {t : Str} {i : Int} {x : D} : isM (.str t) = true → PyData.strOk t = true → 0 ≤ i → i ≤ big → Gen k x → Gen (k + 1) (.tup [.str t, .int i, x])
theorem purs_of : ∀ {xs : List D}, (∀ x ∈ xs, pur x = true) → purs xs = true
  | [], _ => rfl
  | x :: xs, h => by simp only [purs, Bool.and_eq_true]; exact ⟨h x List.mem_cons_self, purs_of fun y hy => h y (List.mem_cons_of_mem _ hy)⟩
theorem Gen.pur : ∀ {k : Nat} {d : D}, Gen k d → pur d = true
  | _, _, .step _ _ => rfl
  | _, _, .grp _ hs _ h => by
    simp only [RP.pur, purs, Bool.and_eq_true, Bool.and_true]
    exact ⟨hs, purs_of fun x hx => (h x hx).pur⟩
  | _, _, .mul _ hs _ _ h => by
    simp only [RP.pur, purs, Bool.and_eq_true, Bool.and_true, true_and]
    exact ⟨hs, h.pur⟩
theorem Gen.up : ∀ {k : Nat} {d : D}, Gen k d → Gen (k + 1) d
  | _, _, .step h1 h2 => .step h1 h2
  | _, _, .grp h1 h2 h3 h4 => .grp h1 h2 h3 fun x hx => (h4 x hx).up
  | _, _, .mul h1 h2 h3 h4 h5 => .mul h1 h2 h3 h4 h5.up
theorem ok_seq : PyData.strOk "seq" = true := by decide +kernel
theorem ok_par : PyData.strOk "par" = true := by decide +kernel
theorem ok_repeat : PyData.strOk "repeat" = true := by decide +kernel
theorem ok_copies : PyData.strOk "copies" = true := by decide +kernel
theorem isG_seq : isG (.str "seq") = true := by decide +kernel
theorem isG_par : isG (.str "par") = true := by decide +kernel
theorem isM_repeat : isM (.str "repeat") = true := by decide +kernel
theorem isM_copies : isM (.str "copies") = true := by decide +kernel

/-- the counts a law gives -/
def Cnt (cs : List D) : Prop := 0 < cs.length ∧ cs.length ≤ 100 ∧ ∀ d ∈ cs, ∃ i : Int, d = .int i ∧ 0 ≤ i ∧ i ≤ big
def drawsN : Nat → Nat
  | 0 => 0
  | k + 1 => 30 + 4 * drawsN k
theorem drawsN_pos (k : Nat) : 30 ≤ drawsN (k + 1) := by simp [drawsN]
theorem numb_l (n : Nat) (lo : Int) : (numb lo n).length = n := numb_len n lo
theorem gen_top {k : Nat} {d : D} (h : Gen k d) : d.top = 0 := pur_top _ h.pur
theorem rng4 {i : Int} (h0 : 0 ≤ i) (h : i ≤ 100) : -(2 ^ 62) ≤ (0 : Int) ∧ (0 : Int) < 2 ^ 62 ∧ -(2 ^ 62) ≤ i ∧ i < 2 ^ 62 := by omega

/-- an item of a written list, drawn -/
theorem menu {n m p c : Nat} {st : Sto} {oc : O} (h : Pots st p m c oc) (hm : m < 2 ^ 60) (ms : List D) (ht : tops ms = 0) (h0 : 0 < ms.length) (h1 : ms.length ≤ 1000) :
    ∃ (r : Int) (o' : O) (d : D), callN gl P (n + 1) 17 [.ref p, .int (ms.length : Int)] (st ++ [.lst ms]) = .ok (.int r) (st.set p o' ++ [.lst ms]) ∧ Pot (m + 1) o' ∧ d ∈ ms ∧ ixD (.ref st.length) (.int r) (st.set p o' ++ [.lst ms]) = .ok d (st.set p o' ++ [.lst ms]) := by
  have hl := h.last (acc := ms) (by omega)
  obtain ⟨r, o', e1, a1, b1, p1⟩ := take_of (n := n) (q := (ms.length : Int)) hl hm (by omega) (by
    have : ((2 : Int) ^ 3000) = 2 ^ 10 * 2 ^ 2990 := by rw [← Int.pow_add]
    have h2 : (0 : Int) < 2 ^ 2990 := Int.pow_pos (by decide)
    omega)
  rw [set_last h.lt] at e1
  obtain ⟨i, rfl, hi⟩ := ofNat_lt a1 b1
  refine ⟨i, o', ms[i], e1, p1, List.getElem_mem hi, ?_⟩
  have ls : st.length = (st.set p o').length := by simp
  refine ixL (o := .lst ms) (by rw [ls]; exact get_last) (by simp [O.items, hi])
/-- a comprehension over a range whose element draws, made a tuple -/
theorem draw_tuple {n m p c T M : Nat} {st : Sto} {oc : O} {env : RP.Env} {i : Nat} {elt : E} {Q : D → Prop} {many : Int} (h : Pots st p m c oc) (hmany : 0 ≤ many) (h4 : many ≤ 4)
    (hel : ∀ (st : Sto) (m : Nat) (x : D), Pots st p m c oc → m + T ≤ M → ∃ y o', ev gl (callN gl P n) elt ((wipeE env [i]).set i (some x)) st = .ok y (st.set p o') ∧ Q y ∧ y.top = 0 ∧ Pot (m + T) o') (hM : m + 4 * T ≤ M) :
    ∃ ys o', compLoop (asg gl (callN gl P n) (.nm i)) (ev gl (callN gl P n) (.k (.bl true))) (ev gl (callN gl P n) elt) none st.length (wipeE env [i]) (numb 0 (many - 0).toNat) (st ++ [.lst []]) = .ok () (st.set p o' ++ [.lst ys]) ∧ ys.length ≤ 4 ∧ (∀ y ∈ ys, Q y) ∧ tops ys = 0 ∧ Pot (m + 4 * T) o' := by
  have hn : (numb 0 (many - 0).toNat).length ≤ 4 := by rw [numb_len]; omega
  have ht : T * (numb 0 (many - 0).toNat).length ≤ 4 * T := by rw [Nat.mul_comm 4 T]; exact Nat.mul_le_mul_left T hn
  obtain ⟨ys, o', e, l, q, t, pp⟩ := comp_draw (Q := Q) hel (numb 0 (many - 0).toNat) [] st m h (by omega) rfl (by rw [List.length_nil, Nat.zero_add]; exact Nat.le_trans hn (by decide : 4 ≤ sizeLine))
  exact ⟨ys, o', by simpa using e, by omega, q, t, pp.mono (by omega)⟩

theorem law_job_eq : ∀ (k n m p c : Nat) (st : Sto) (cs : List D), Cnt cs → Pots st p m c (.lst cs) → m + drawsN (k + 1) < 2 ^ 60 →
    ∃ d o', callN gl P (n + k + 3) 19 [.ref p, .int ((k + 1 : Nat) : Int), .ref c] st = .ok d (st.set p o') ∧ Gen (k + 1) d ∧ Pot (m + drawsN (k + 1)) o' := by
  intro k
  induction k with
  | zero =>
    intro n m p c st cs hc h hm
    have dn : drawsN (0 + 1) = 30 := rfl
    rw [show n + 0 + 3 = (n + 2) + 1 from rfl, call_eq p19 rfl]
    simp only [b19]
    walk_at "ev"
    obtain ⟨r1, o1, e1, a1, b1, p1⟩ := take_of (n := n + 1) (q := 9) h (by omega) (by decide) (by decide)
    have h1 := h.set p1
    rw [e1]
    walk_at "ev"
    have l2 : decide (((0 + 1 : Nat) : Int) < 2) = true := by decide
    simp only [l2]
    walk_at "ev"
    obtain ⟨i, o2, e2, a2, b2, p2⟩ := law_step_eq (n := n) h1 (by omega)
    rw [List.set_set] at e2
    rw [e2]
    walk_at "ev"
    exact ⟨.int i, o2, by simp only [D.top, trim_set' h.wf p2], .step a2 b2, p2.mono (by omega)⟩
  | succ k ih =>
    intro n m p c st cs hc h hm
    have dn : drawsN (k + 1 + 1) = 30 + 4 * drawsN (k + 1) := rfl
    have hk : ((k + 1 + 1 : Nat) : Int) - 1 = ((k + 1 : Nat) : Int) := by omega
    rw [show n + (k + 1) + 3 = (n + k + 3) + 1 from rfl, call_eq p19 rfl]
    simp only [b19]
    walk_at "ev"
    obtain ⟨r1, o1, e1, a1, b1, p1⟩ := take_of (n := n + k + 2) (q := 9) h (by omega) (by decide) (by decide)
    have h1 := h.set p1
    rw [e1]
    walk_at "ev"
    have l2 : decide (((k + 1 + 1 : Nat) : Int) < 2) = false := by simp; omega
    simp only [l2]
    walk_at "ev"
    by_cases c0 : r1 = 0
    · subst c0
      simp only [beq_self_eq_true]
      walk_at "ev"
      obtain ⟨i, o2, e2, a2, b2, p2⟩ := law_step_eq (n := n + k + 1) h1 (by omega)
      rw [List.set_set] at e2
      rw [e2]
      walk_at "ev"
      exact ⟨.int i, o2, by simp only [D.top, trim_set' h.wf p2], .step a2 b2, p2.mono (by omega)⟩
    have c0' : (r1 == 0) = false := by simpa using c0
    simp only [c0']
    walk_at "ev"
    by_cases c3 : r1 < 3
    · simp only [c3, decide_true]
      walk_at "ev"
      obtain ⟨r2, o2, d2, e2, p2, m2, x2⟩ := menu (n := n + k + 2) h1 (by omega) [.int 3, .int 2, .int 4, .int 0] rfl (by decide) (by decide)
      rw [List.set_set] at e2 x2
      rw [show (([D.int 3, .int 2, .int 4, .int 0] : List D).length : Int) = 4 from rfl] at e2
      rw [e2]
      walk_at "ev"
      rw [x2]
      walk_at "ev"
      have hd2 : ∃ many : Int, d2 = .int many ∧ 0 ≤ many ∧ many ≤ 4 := by
        simp at m2
        rcases m2 with rfl | rfl | rfl | rfl <;> exact ⟨_, rfl, by decide, by decide⟩
      obtain ⟨many, rfl, y0, y4⟩ := hd2
      rw [rng_of (rng4 y0 (by omega))]
      walk_at "ev"
      have h2 := (h.set p2).last (acc := [.int 3, .int 2, .int 4, .int 0]) (by simp [tops, D.top])
      obtain ⟨ys, o3, e3, l3, q3, t3, p3⟩ := draw_tuple (n := n + k + 3) (T := 5) (M := m + 2 + 20) (env := [some (.ref p), some (.int ((k + 1 + 1 : Nat) : Int)), some (.ref c), some (.int r1), some (.int many), none]) (i := 5) (elt := b19c0) (Q := fun y => Gen (k + 1) y) h2 y0 y4 (fun st' m' x hst hm' => by
          simp only [b19c0, wipeE]
          walk_at "ev"
          obtain ⟨i, o4, e4, a4, b4, p4⟩ := law_step_eq (n := n + k + 1) hst (by omega)
          exact ⟨.int i, o4, e4, .step a4 b4, rfl, p4⟩) (by omega)
      simp only [Tg.slots]
      rw [e3]
      walk_at "ev"
      rw [set_last (by simpa using h.lt), List.set_set]
      have ls : (st.set p o2 ++ [O.lst [.int 3, .int 2, .int 4, .int 0]]).length = (st.set p o3 ++ [O.lst [.int 3, .int 2, .int 4, .int 0]]).length := by simp
      rw [bi_tuple_ref (o := .lst ys) (by rw [ls]; exact get_last)]
      walk_at "ev"
      refine ⟨.tup [.str "seq", .tup ys], o3, ?_, .grp isG_seq ok_seq l3 q3, p3.mono (by omega)⟩
      rw [List.append_assoc]
      have tt : D.top (.tup [.str "seq", .tup ys]) = 0 := by simp [D.top, tops, t3]
      simp only [O.items, tt, trim_set h.wf p3]
    · simp only [c3, decide_false]
      walk_at "ev"
      by_cases c7 : r1 < 7
      · simp only [c7, decide_true]
        walk_at "ev"
        obtain ⟨r2, o2, d2, e2, p2, m2, x2⟩ := menu (n := n + k + 2) h1 (by omega) [.int 2, .int 3, .int 2, .int 1, .int 3, .int 0] rfl (by decide) (by decide)
        rw [List.set_set] at e2 x2
        rw [show (([D.int 2, .int 3, .int 2, .int 1, .int 3, .int 0] : List D).length : Int) = 6 from rfl] at e2
        rw [e2]
        walk_at "ev"
        rw [x2]
        walk_at "ev"
        have hd2 : ∃ many : Int, d2 = .int many ∧ 0 ≤ many ∧ many ≤ 4 := by
          simp at m2
          rcases m2 with rfl | rfl | rfl | rfl | rfl | rfl <;> exact ⟨_, rfl, by decide, by decide⟩
        obtain ⟨many, rfl, y0, y4⟩ := hd2
        rw [b_mod (by decide)]
        walk_at "ev"
        have hw : ∃ t : Str, ixD (.ref (st.set p o2 ++ [O.lst [.int 2, .int 3, .int 2, .int 1, .int 3, .int 0]]).length) (.int (r1 % 2)) ((st.set p o2 ++ [O.lst [.int 2, .int 3, .int 2, .int 1, .int 3, .int 0]]) ++ [O.lst [.str "seq", .str "par"]]) = .ok (.str t) ((st.set p o2 ++ [O.lst [.int 2, .int 3, .int 2, .int 1, .int 3, .int 0]]) ++ [O.lst [.str "seq", .str "par"]]) ∧ isG (.str t) = true ∧ PyData.strOk t = true := by
          rcases (show r1 % 2 = ((0 : Nat) : Int) ∨ r1 % 2 = ((1 : Nat) : Int) by omega) with z | z
          · rw [z]; exact ⟨"seq", ixL (i := 0) get_last rfl, isG_seq, ok_seq⟩
          · rw [z]; exact ⟨"par", ixL (i := 1) get_last rfl, isG_par, ok_par⟩
        obtain ⟨t, xt, gt, ot⟩ := hw
        rw [xt]
        walk_at "ev"
        rw [rng_of (rng4 y0 (by omega))]
        walk_at "ev"
        have h2 := ((h.set p2).last (acc := [.int 2, .int 3, .int 2, .int 1, .int 3, .int 0]) (by simp [tops, D.top])).last (acc := [.str "seq", .str "par"]) (by simp [tops, D.top])
        obtain ⟨ys, o3, e3, l3, q3, t3, p3⟩ := draw_tuple (n := n + k + 3) (T := drawsN (k + 1)) (M := m + 2 + 4 * drawsN (k + 1)) (env := [some (.ref p), some (.int ((k + 1 + 1 : Nat) : Int)), some (.ref c), some (.int r1), some (.int many), none]) (i := 5) (elt := b19c1) (Q := fun y => Gen (k + 1) y) h2 y0 y4 (fun st' m' x hst hm' => by
            simp only [b19c1, wipeE]
            walk_at "ev"
            rw [hk]
            obtain ⟨d, o4, e4, g4, p4⟩ := ih n m' p c st' cs hc hst (by omega)
            exact ⟨d, o4, e4, g4, gen_top g4, p4⟩) (by omega)
        simp only [Tg.slots]
        rw [e3]
        walk_at "ev"
        rw [set_last (by simp; exact Nat.lt_succ_of_lt h.lt), set_last (by simpa using h.lt), List.set_set]
        have ls : ((st.set p o2 ++ [O.lst [.int 2, .int 3, .int 2, .int 1, .int 3, .int 0]]) ++ [O.lst [.str "seq", .str "par"]]).length = ((st.set p o3 ++ [O.lst [.int 2, .int 3, .int 2, .int 1, .int 3, .int 0]]) ++ [O.lst [.str "seq", .str "par"]]).length := by simp
        rw [bi_tuple_ref (o := .lst ys) (by rw [ls]; exact get_last)]
        walk_at "ev"
        refine ⟨.tup [.str t, .tup ys], o3, ?_, .grp gt ot l3 q3, p3.mono (by omega)⟩
        rw [List.append_assoc, List.append_assoc]
        have tt : D.top (.tup [.str t, .tup ys]) = 0 := by simp [D.top, tops, t3]
        simp only [O.items, tt, trim_set h.wf p3]
      · simp only [c7, decide_false]
        walk_at "ev"
        rw [b_mod (by decide)]
        walk_at "ev"
        have hw : ∃ t : Str, ixD (.ref (st.set p o1).length) (.int (r1 % 2)) (st.set p o1 ++ [O.lst [.str "repeat", .str "copies"]]) = .ok (.str t) (st.set p o1 ++ [O.lst [.str "repeat", .str "copies"]]) ∧ isM (.str t) = true ∧ PyData.strOk t = true := by
          rcases (show r1 % 2 = ((0 : Nat) : Int) ∨ r1 % 2 = ((1 : Nat) : Int) by omega) with z | z
          · rw [z]; exact ⟨"repeat", ixL (i := 0) get_last rfl, isM_repeat, ok_repeat⟩
          · rw [z]; exact ⟨"copies", ixL (i := 1) get_last rfl, isM_copies, ok_copies⟩
        obtain ⟨t, xt, gt, ot⟩ := hw
        rw [xt]
        walk_at "ev"
        have h2 := h1.last (acc := [.str "repeat", .str "copies"]) (by simp [tops, D.top])
        rw [bi_len_ref h2.oth]
        walk_at "ev"
        simp only [O.items]
        obtain ⟨r3, o3, e3, a3, b3, p3⟩ := take_of (n := n + k + 2) (q := (cs.length : Int)) h2 (by omega) (by have := hc.1; omega) (by
          have h5 : ((2 : Int) ^ 3000) = 2 ^ 10 * 2 ^ 2990 := by rw [← Int.pow_add]
          have h6 : (0 : Int) < 2 ^ 2990 := Int.pow_pos (by decide)
          have := hc.2.1
          omega)
        have h3 := h2.set p3
        rw [e3]
        walk_at "ev"
        obtain ⟨i3, rfl, hi3⟩ := ofNat_lt a3 b3
        rw [ixL (i := i3) (d := cs[i3]) h3.oth (by simp [O.items, hi3])]
        walk_at "ev"
        obtain ⟨cv, ecv, cv0, cv1⟩ := hc.2.2 cs[i3] (List.getElem_mem hi3)
        rw [ecv]
        rw [hk]
        obtain ⟨d, o4, e4, g4, p4⟩ := ih n (m + 1 + 1) p c _ cs hc h3 (by omega)
        rw [e4]
        walk_at "ev"
        rw [set_last (by simpa using h.lt), List.set_set, set_last (by simpa using h.lt), List.set_set]
        refine ⟨.tup [.str t, .int cv, d], o4, ?_, .mul gt ot cv0 cv1 g4, p4.mono (by omega)⟩
        have tt : D.top (.tup [.str t, .int cv, d]) = 0 := by simp [D.top, tops, gen_top g4]
        simp only [tt, trim_set h.wf p4]
end Qk04

namespace Qk04
open PySem RP
local macro_rules | `(tactic| walk_at "ev") => `(tactic| simp only [e_v, lkV_some, lkG_some, e_k, e_g, e_tup, e_lst, e_bin, e_cmp, e_chain, e_neg, e_not, e_and, e_or, e_ife, e_ix, e_call, e_bi, e_isi, e_mt, e_sl, e_rev, e_comp, es_nil, es_cons, i_seq, i_rng, a_nm, a_two, a_tup, a_sub, s_ex', s_asg', s_two', s_aug', s_ret', s_ife', s_for', s_skip', ss_nil, ss_cons, it_tup, RP.neg_int, putTo_some, bi_len_tup, b_add, b_sub, c_lt, c_le, c_gt, c_ge, c_eqi, c_nei, c_isN, c_notN, isB_bl, sz0, sz1, sz2, sz3, sz4, sz5, sz6, sz7, ix0, ix1, ix2, List.map_cons, List.map_nil, List.cons_append, List.nil_append, Nat.sub_self, List.replicate, List.getElem?_cons_zero, List.getElem?_cons_succ, List.set_cons_zero, List.set_cons_succ, Res.bind_ok, nxt_nx, nxt_rt, br_some, tru_bl, fin_rt, fin_nx, if_true, if_false, Bool.false_eq_true, gg0, gg1, gg2, gg3, gg4, gg5, gg6])
local macro_rules | `(tactic| walk_at "end") => `(tactic| simp [nxt_nx, nxt_rt, ss_nil, br_some, tru_bl, fin_rt, fin_nx, D.top, tops, *])

theorem foldM_congr {f g : D → Option (Int × Int)} : ∀ (xs : List D) (n s : Int), (∀ x ∈ xs, f x = g x) → foldM f xs n s = foldM g xs n s
  | [], _, _, _ => rfl
  | x :: xs, n, s, h => by
    simp only [foldM, h x List.mem_cons_self]
    cases g x with
    | none => rfl
    | some p => obtain ⟨a, b⟩ := p; simp only; rw [foldM_congr xs _ _ fun y hy => h y (List.mem_cons_of_mem _ hy)]
theorem Gen.stable : ∀ {k : Nat} {d : D}, Gen k d → ∀ j, measM (k + j) d = measM k d
  | k + 1, _, .step h1 h2, j => by rw [show k + 1 + j = (k + j) + 1 by omega]; simp only [measM]
  | k + 1, _, .grp (xs := xs) h1 h2 h3 h4, j => by
    rw [show k + 1 + j = (k + j) + 1 by omega]
    simp only [measM, h1, if_true, partsM]
    rw [foldM_congr xs 1 0 fun x hx => (h4 x hx).stable j]
  | k + 1, _, .mul (x := x) h1 h2 h3 h4 h5, j => by
    rw [show k + 1 + j = (k + j) + 1 by omega]
    simp only [measM, h1, if_true, multM, h5.stable j]
def nb : Nat → Int
  | 0 => 0
  | k + 1 => 1 + 4 * nb k
theorem nb_nonneg : ∀ k, 0 ≤ nb k
  | 0 => by decide
  | k + 1 => by have := nb_nonneg k; simp only [nb]; omega
theorem foldM_nb {f : D → Option (Int × Int)} {B : Int} (hB : 0 ≤ B) : ∀ (xs : List D) (n s a b : Int), (∀ x ∈ xs, ∀ p, f x = some p → p.1 ≤ B) → foldM f xs n s = some (a, b) → a ≤ n + xs.length * B
  | [], n, s, a, b, _, h => by cases h; simp
  | x :: xs, n, s, a, b, hx, h => by
    simp only [foldM] at h
    cases q : f x with
    | none => rw [q] at h; cases h
    | some r =>
      obtain ⟨u, v⟩ := r
      rw [q] at h
      simp only at h
      split at h
      · cases h
      · have h1 := foldM_nb hB xs _ _ a b (fun y hy => hx y (List.mem_cons_of_mem _ hy)) h
        have h2 := hx x List.mem_cons_self _ q
        simp only at h2
        rw [List.length_cons, Int.natCast_add, Int.add_mul]
        omega
theorem Gen.small : ∀ {k : Nat} {d : D}, Gen k d → ∀ {a b : Int}, measM k d = some (a, b) → a ≤ nb k
  | k + 1, _, .step h1 h2, a, b, h => by
    simp only [measM] at h
    split at h
    · cases h; have := nb_nonneg k; simp only [nb]; omega
    · cases h
  | k + 1, _, .grp (xs := xs) h1 h2 h3 h4, a, b, h => by
    simp only [measM, h1, if_true, partsM] at h
    split at h
    · cases h
    · have h5 := foldM_nb (nb_nonneg k) xs 1 0 a b (fun x hx p hp => (h4 x hx).small (a := p.1) (b := p.2) hp) h
      have h6 : (xs.length : Int) * nb k ≤ 4 * nb k := Int.mul_le_mul_of_nonneg_right (by omega) (nb_nonneg k)
      simp only [nb]; omega
  | k + 1, _, .mul (x := x) h1 h2 h3 h4 h5, a, b, h => by
    simp only [measM, h1, if_true, multM, h3, h4, and_self] at h
    cases q : measM k x with
    | none => rw [q] at h; cases h
    | some r =>
      obtain ⟨u, v⟩ := r
      rw [q] at h
      simp only at h
      split at h
      · cases h
      · cases h
        have := h5.small q
        have := nb_nonneg k
        simp only [nb]; omega

/-! ### the jobs of the law -/
def J0 : D := .tup [.str "copies", .int 1000000, .tup [.str "seq", .tup [.int 2, .tup [.str "repeat", .int 1000000000, .int (-1)]]]]
def E0 : D := .tup [.str "par", .tup [.tup [.str "seq", .tup []], .tup [.str "repeat", .int 0, .int 5], .tup [.str "copies", .int big, .tup [.str "seq", .tup []]]]]
theorem gen_J0 : Gen 5 J0 := by
  refine .mul isM_copies ok_copies (by decide) (by decide) (.grp isG_seq ok_seq (by decide) fun x hx => ?_)
  simp at hx
  rcases hx with rfl | rfl
  · exact .step (by decide) (by decide)
  · exact .mul isM_repeat ok_repeat (by decide) (by decide) (.step (by decide) (by decide))
theorem job_J0 : measM 13 J0 = some (5, 1000001000000) ∨ isJob J0 = true := by
  right; decide +kernel
theorem meas_E0 : measM 12 E0 = some (6, 0) := by decide +kernel
theorem meas_E0' : measM 13 E0 = some (6, 0) := by decide +kernel
theorem pur_E0 : pur E0 = true := by decide +kernel
/-- the three jobs that are asked -/
theorem three {d : D} (g : Gen 5 d) (hj : isJob d = true) : ∀ x ∈ [d, .tup [.str "seq", .tup [E0, d]], .tup [.str "copies", .int 0, d]], pur x = true ∧ ∃ a b, measM 13 x = some (a, b) := by
  have s13 := g.stable 8
  have s12 := g.stable 7
  unfold isJob at hj
  rw [Option.isSome_iff_exists] at hj
  obtain ⟨⟨a, b⟩, hm⟩ := hj
  rw [show 5 + 8 = 13 from rfl, hm] at s13
  rw [show 5 + 7 = 12 from rfl, ← s13] at s12
  have sm := g.small s13.symm
  have hnb : nb 5 = 341 := by decide
  obtain ⟨k1, k2, k3, k4⟩ := measM_ok _ _ _ hm
  simp only at k1 k2 k3 k4
  intro x hx
  simp only [List.mem_cons, List.not_mem_nil, or_false] at hx
  rcases hx with rfl | rfl | rfl
  · exact ⟨g.pur, a, b, hm⟩
  · refine ⟨?_, 7 + a, b, ?_⟩
    · simp only [pur, purs, pur_E0, g.pur, ok_seq]; rfl
    · simp only [measM, isG_seq, if_true, partsM, List.length_cons, List.length_nil, foldM, meas_E0, s12]
      rw [if_neg (by decide), if_neg (by unfold big; omega), if_neg (by omega)]
      simp only [Option.some.injEq, Prod.mk.injEq]
      constructor <;> omega
  · refine ⟨?_, 1 + a, 0 * b, ?_⟩
    · simp only [pur, purs, g.pur, ok_copies]; rfl
    · simp only [measM, isM_copies, if_true, multM, s12]
      rw [if_pos (by unfold big; decide)]
      rw [if_neg (by rw [Int.zero_mul]; unfold big; omega)]
end Qk04

namespace Qk04
open PySem RP
local macro_rules | `(tactic| walk_at "ev") => `(tactic| simp only [e_v, lkV_some, lkG_some, e_k, e_g, e_tup, e_lst, e_bin, e_cmp, e_chain, e_neg, e_not, e_and, e_or, e_ife, e_ix, e_call, e_bi, e_isi, e_mt, e_sl, e_rev, e_comp, es_nil, es_cons, i_seq, i_rng, a_nm, a_two, a_tup, a_sub, s_ex', s_asg', s_two', s_aug', s_ret', s_ife', s_for', s_skip', ss_nil, ss_cons, it_tup, RP.neg_int, putTo_some, bi_len_tup, b_add, b_sub, c_lt, c_le, c_gt, c_ge, c_eqi, c_nei, c_isN, c_notN, isB_bl, sz0, sz1, sz2, sz3, sz4, sz5, sz6, sz7, ix0, ix1, ix2, List.map_cons, List.map_nil, List.cons_append, List.nil_append, Nat.sub_self, List.replicate, List.getElem?_cons_zero, List.getElem?_cons_succ, List.set_cons_zero, List.set_cons_succ, Res.bind_ok, nxt_nx, nxt_rt, br_some, tru_bl, fin_rt, fin_nx, if_true, if_false, Bool.false_eq_true, gg0, gg1, gg2, gg3, gg4, gg5, gg6])
local macro_rules | `(tactic| walk_at "end") => `(tactic| simp [nxt_nx, nxt_rt, ss_nil, br_some, tru_bl, fin_rt, fin_nx, D.top, tops, *])

/-! ### mirrors -/
def mirN : Nat → D → D
  | 0, d => d
  | _ + 1, .int i => .int (0 - i)
  | k + 1, .tup [.str t, .tup xs] => .tup [.str t, .tup (if decide (t = "seq") then (xs.map (mirN k)).reverse else xs.map (mirN k))]
  | k + 1, .tup [.str t, .int c, x] => .tup [.str t, .int c, mirN k x]
  | _, d => d
theorem isM_not {t : Str} (h : isG (.str t) = true) : isM (.str t) = false := by
  cases hm : isM (.str t)
  · rfl
  · simp [isG, isM, eqF] at h hm
    rcases h with h | h <;> rcases hm with hm | hm <;> (rw [← h] at hm; revert hm; decide)
theorem mir_top : ∀ {k : Nat} {d : D} {a b : Int}, pur d = true → measM k d = some (a, b) → pur (mirN k d) = true := by
  intro k
  induction k with
  | zero => intro d a b _ h; simp [measM] at h
  | succ k ih =>
    intro d a b hd h
    rcases measM_shape h with ⟨i, rfl, rfl, rfl⟩ | ⟨t, xs, rfl, hg, hl, hf⟩ | ⟨t, i, x, u, v, rfl, hm, hg, h1, h2, hx, h3, h4, rfl, rfl⟩
    · rfl
    · obtain ⟨ps, hm, ha, hb⟩ := foldM_sum xs 1 0 a b hf
      have hp : PyData.strOk t = true ∧ purs xs = true := by simpa [pur, purs] using hd
      have all : ∀ y ∈ xs.map (mirN k), pur y = true := fun y hy => by
        obtain ⟨x, hx, rfl⟩ := List.mem_map.mp hy
        obtain ⟨p, hp'⟩ := all_some hm x hx
        exact ih (pur_mem hp.2 x hx) hp'
      simp only [mirN, pur, purs, Bool.and_true, Bool.and_eq_true]
      refine ⟨hp.1, ?_⟩
      split
      · exact purs_of fun y hy => all y (List.mem_reverse.mp hy)
      · exact purs_of all
    · have hp : PyData.strOk t = true ∧ pur x = true := by simpa [pur, purs] using hd
      simp only [mirN, pur, purs, Bool.and_true, Bool.and_eq_true, true_and]
      exact ⟨hp.1, ih hp.2 hx⟩
theorem comp_mir {cf : CallF} {elt : E} {st : Sto} (w : Wf st) {env : RP.Env} {i : Nat} {xs : List D} (g : D → D) (ht : ∀ x ∈ xs, (g x).top = 0) (hl : xs.length ≤ 400)
    (h : ∀ x ∈ xs, ∀ st' : Sto, Wf st' → ev gl cf elt (env.set i (some x)) st' = .ok (g x) st') :
    compLoop (asg gl cf (.nm i)) (ev gl cf (.k (.bl true))) (ev gl cf elt) none st.length env xs (st ++ [.lst []]) = .ok () (st ++ [.lst (xs.map g)]) := by
  have q := comp_map (gl := gl) (cf := cf) (elt := elt) (env := env) (i := i) w g xs [] (fun x hx => ⟨by rw [ht x hx]; exact Nat.zero_le _, fun acc' w' => h x hx _ w'⟩) (Nat.zero_le _) (by simpa using small_len hl)
  simpa using q
theorem tops_of : ∀ {xs : List D}, (∀ x ∈ xs, x.top = 0) → tops xs = 0
  | [], _ => rfl
  | x :: xs, h => by simp only [tops, h x List.mem_cons_self, tops_of fun y hy => h y (List.mem_cons_of_mem _ hy)]; rfl
theorem mirror_by_eq : ∀ (k : Nat) (d : D) (st : Sto) (n : Nat) (a b : Int), pur d = true → Wf st → measM k d = some (a, b) → callN gl P (n + k + 1) 14 [d] st = .ok (mirN k d) st
  | 0, d, st, n, a, b, hd, w, h => by simp [measM] at h
  | k + 1, d, st, n, a, b, hd, w, h => by
    have e := trim_id (t := 0) w (Nat.zero_le _)
    have tm := pur_top _ (mir_top hd h)
    rw [show n + (k + 1) + 1 = (n + k + 1) + 1 from rfl, call_eq (n := n + k + 1) p14 rfl]
    simp only [b14]
    walk_at "ev"
    rw [is_node_eq w (pur_le hd _)]
    walk_at "ev"
    have hq : ∀ t, ([D.str "repeat", D.str "copies"].any fun y => eqF y (.str t)) = isM (.str t) := fun _ => rfl
    rcases measM_shape h with ⟨i, rfl, rfl, rfl⟩ | ⟨t, xs, rfl, hg, hl, hf⟩ | ⟨t, i, x, u, v, rfl, hm, hg, h1, h2, hx, h3, h4, rfl, rfl⟩
    · simp only [tyB]
      walk_at "ev"
      simp only [D.top, e, mirN]
    · simp only [tyB]
      walk_at "ev"
      rw [c_in (ys := [.str "repeat", .str "copies"]) rfl rfl, hq, isM_not hg]
      walk_at "ev"
      have hp : purs xs = true := by simp [pur, purs] at hd; exact hd.2
      obtain ⟨ps, hm, ha, hb⟩ := foldM_sum xs 1 0 a b hf
      rw [comp_mir (g := mirN k) w (fun x hx => by obtain ⟨p, hp'⟩ := all_some hm x hx; exact pur_top _ (mir_top (pur_mem hp x hx) hp')) hl (fun x hx st' w' => ?_)]
      · walk_at "ev"
        simp only [c_eqstr]
        walk_at "ev"
        simp only [mirN] at tm ⊢
        by_cases hs : t = "seq"
        · simp only [hs, decide_true, if_true] at tm ⊢
          try walk_at "ev"
          rw [rev_ref get_last]
          walk_at "ev"
          rw [bi_tuple_ref get_last]
          walk_at "ev"
          simp only [O.items] at *
          rw [List.append_assoc, tm, trim_app w (Nat.zero_le _)]
        · simp only [hs, decide_false] at tm ⊢
          walk_at "ev"
          rw [bi_tuple_ref get_last]
          walk_at "ev"
          simp only [O.items, Bool.false_eq_true, if_false] at *
          rw [tm, trim_app w (Nat.zero_le _)]
      · obtain ⟨p, hp'⟩ := all_some hm x hx
        simp only [b14c0]
        simp only [Tg.slots, wipeE]
        walk_at "ev"
        rw [mirror_by_eq k x st' n p.1 p.2 (pur_mem hp x hx) w' hp']
    · simp only [tyB]
      walk_at "ev"
      rw [c_in (ys := [.str "repeat", .str "copies"]) rfl rfl, hq, hm]
      walk_at "ev"
      have hpx : pur x = true := by simp [pur, purs] at hd; exact hd.2
      rw [mirror_by_eq k x st n u v hpx w hx]
      walk_at "ev"
      simp only [mirN] at tm ⊢
      rw [tm, e]

theorem mirror_eq {n : Nat} {st : Sto} {d : D} {a b : Int} (hd : pur d = true) (w : Wf st) (hj : measM 13 d = some (a, b)) : callN gl P (n + 32) 15 [d] st = .ok (mirN 13 d) st := by
  rw [call_eq (n := n + 31) p15 rfl]
  have e := trim_id (t := 0) w (Nat.zero_le _)
  simp only [b15]
  walk_at "ev"
  rw [check_job_eq hd w (by simp [isJob, hj])]
  walk_at "ev"
  rw [show n + 31 = (n + 17) + 13 + 1 from rfl, mirror_by_eq 13 d st (n + 17) a b hd w hj]
  walk_at "ev"
  simp only [pur_top _ (mir_top hd hj), e]
/-- the law's own mirror: the loop that turns a row round -/
theorem turn_loop {n m : Nat} {st : Sto} {e0 e1 : Option D} {ys : List D} (w : Wf st) (h0 : ∀ y, e0 = some y → y.top = 0) (h1 : e1 = some (.ref m)) (hm : m < st.length) (hs : st[m]? = some (.lst ys)) :
    ∀ (xs acc : List D) (e2 : Option D), tops xs = 0 → tops acc = 0 → acc.length + xs.length ≤ 400 → (∀ y, e2 = some y → y.top = 0) →
      ∃ e2', forLoop (asg gl (callN gl P n) (.nm 2)) (evSs gl (callN gl P n) b20f0) (some (m, ys)) st.length xs [e0, e1, e2, some (.tup acc)] st = .ok (.nx [e0, e1, e2', some (.tup (xs.reverse ++ acc))]) st
  | [], acc, e2, _, _, _, _ => ⟨e2, by simp [forLoop, still, hs, O.items, sames_self]⟩
  | x :: xs, acc, e2, hx, ha, hl, h2 => by
    simp only [tops] at hx
    have tx : x.top = 0 ∧ tops xs = 0 := by omega
    have ta : tops (x :: acc) = 0 := by simp only [tops, tx.1, ha]; rfl
    have te : envTop [e0, e1, some x, some (.tup (x :: acc))] ≤ st.length := by
      subst h1
      have q0 : (match e0 with | some d => d.top | none => 0) = 0 := by
        cases e0 with
        | none => rfl
        | some y => exact h0 y rfl
      cases e0 with
      | none => simp only [envTop, D.top, tx.1, ta]; omega
      | some y => simp only [envTop, D.top, tx.1, ta, h0 y rfl]; omega
    obtain ⟨e2', ih⟩ := turn_loop (n := n) w h0 h1 hm hs xs (x :: acc) (some x) tx.2 ta (by simp at hl ⊢; omega) (fun y z => by cases z; exact tx.1)
    refine ⟨e2', ?_⟩
    have st1 : still (some (m, ys)) st = true := by simp [still, hs, O.items, sames_self]
    have hb : evSs gl (callN gl P n) b20f0 [e0, e1, some x, some (.tup acc)] st = .ok (.nx [e0, e1, some x, some (.tup (x :: acc))]) st := by
      simp only [b20f0]
      walk_at "ev"
      rw [b_cat (by simp at hl ⊢; exact Nat.le_trans (show 1 + acc.length ≤ 400 by omega) (by decide))]
      walk_at "ev"
    simp only [forLoop, st1, if_true]
    walk_at "ev"
    rw [hb]
    walk_at "ev"
    rw [trim_id w te]
    rw [ih]
    simp
theorem law_turned_eq : ∀ (k : Nat) (d : D) (st : Sto) (n : Nat) (a b : Int), pur d = true → Wf st → measM k d = some (a, b) → callN gl P (n + k + 1) 20 [d] st = .ok (mirN k d) st
  | 0, d, st, n, a, b, hd, w, h => by simp [measM] at h
  | k + 1, d, st, n, a, b, hd, w, h => by
    have e := trim_id (t := 0) w (Nat.zero_le _)
    have tm := pur_top _ (mir_top hd h)
    rw [show n + (k + 1) + 1 = (n + k + 1) + 1 from rfl, call_eq (n := n + k + 1) p20 rfl]
    simp only [b20]
    walk_at "ev"
    simp only [isi_eq (pur_le hd _)]
    walk_at "ev"
    have hq : ∀ t, ([D.str "repeat", D.str "copies"].any fun y => eqF y (.str t)) = isM (.str t) := fun _ => rfl
    rcases measM_shape h with ⟨i, rfl, rfl, rfl⟩ | ⟨t, xs, rfl, hg, hl, hf⟩ | ⟨t, i, x, u, v, rfl, hm, hg, h1, h2, hx, h3, h4, rfl, rfl⟩
    · simp only [tyB]
      walk_at "ev"
      simp only [D.top, e, mirN]
    · simp only [tyB]
      walk_at "ev"
      rw [c_in (ys := [.str "repeat", .str "copies"]) rfl rfl, hq, isM_not hg]
      walk_at "ev"
      have hp : purs xs = true := by simp [pur, purs] at hd; exact hd.2
      obtain ⟨ps, hm, ha, hb⟩ := foldM_sum xs 1 0 a b hf
      have tops0 : ∀ x ∈ xs, (mirN k x).top = 0 := fun x hx => by obtain ⟨p, hp'⟩ := all_some hm x hx; exact pur_top _ (mir_top (pur_mem hp x hx) hp')
      have topsm : tops (xs.map (mirN k)) = 0 := tops_of fun y hy => by obtain ⟨x, hx, rfl⟩ := List.mem_map.mp hy; exact tops0 x hx
      rw [comp_mir (g := mirN k) w tops0 hl (fun x hx st' w' => ?_)]
      · walk_at "ev"
        simp only [c_eqstr]
        walk_at "ev"
        simp only [mirN] at tm ⊢
        have hsp : t = "seq" ∨ t = "par" := by
          simp [isG, eqF] at hg
          rcases hg with hg | hg
          · exact .inl hg.symm
          · exact .inr hg.symm
        have wl : Wf (st ++ [O.lst (xs.map (mirN k))]) := wf_last w (by omega)
        rcases hsp with rfl | rfl
        · have d1 : decide (("seq" : Str) = "par") = false := by decide
          simp only [d1, decide_true, if_true] at tm ⊢
          walk_at "ev"
          rw [it_ref get_last]
          walk_at "ev"
          obtain ⟨e2', lp⟩ := turn_loop (n := n + k + 1) (m := st.length) (e0 := some (.tup [.str "seq", .tup xs])) (e1 := some (.ref st.length)) (ys := xs.map (mirN k)) wl (fun y z => by cases z; exact pur_top _ hd) rfl (by simp) get_last (xs.map (mirN k)) [] none topsm rfl (by simpa using hl) (fun y z => by cases z)
          simp only [O.items]
          rw [lp]
          walk_at "ev"
          rw [List.append_nil, tm, trim_app w (Nat.zero_le _)]
        · have d1 : decide (("par" : Str) = "seq") = false := by decide
          simp only [d1, decide_true, Bool.false_eq_true, if_false] at tm ⊢
          walk_at "ev"
          rw [bi_tuple_ref get_last]
          walk_at "ev"
          simp only [O.items]
          rw [tm, trim_app w (Nat.zero_le _)]
      · obtain ⟨p, hp'⟩ := all_some hm x hx
        simp only [b20c0]
        simp only [Tg.slots, wipeE]
        walk_at "ev"
        rw [law_turned_eq k x st' n p.1 p.2 (pur_mem hp x hx) w' hp']
    · simp only [tyB]
      walk_at "ev"
      rw [c_in (ys := [.str "repeat", .str "copies"]) rfl rfl, hq, hm]
      walk_at "ev"
      have hpx : pur x = true := by simp [pur, purs] at hd; exact hd.2
      simp only [sl_two]
      walk_at "ev"
      rw [law_turned_eq k x st n u v hpx w hx]
      walk_at "ev"
      rw [b_cat (by show 3 ≤ sizeLine; decide)]
      walk_at "ev"
      simp only [mirN] at tm ⊢
      rw [tm, e]
end Qk04

namespace Qk04
open PySem RP
local macro_rules | `(tactic| walk_at "ev") => `(tactic| simp only [e_v, lkV_some, lkG_some, e_k, e_g, e_tup, e_lst, e_bin, e_cmp, e_chain, e_neg, e_not, e_and, e_or, e_ife, e_ix, e_call, e_bi, e_isi, e_mt, e_sl, e_rev, e_comp, es_nil, es_cons, i_seq, i_rng, a_nm, a_two, a_tup, a_sub, s_ex', s_asg', s_two', s_aug', s_ret', s_ife', s_for', s_skip', ss_nil, ss_cons, it_tup, RP.neg_int, putTo_some, bi_len_tup, b_add, b_sub, c_lt, c_le, c_gt, c_ge, c_eqi, c_nei, c_isN, c_notN, isB_bl, sz0, sz1, sz2, sz3, sz4, sz5, sz6, sz7, ix0, ix1, ix2, List.map_cons, List.map_nil, List.cons_append, List.nil_append, Nat.sub_self, List.replicate, List.getElem?_cons_zero, List.getElem?_cons_succ, List.set_cons_zero, List.set_cons_succ, Res.bind_ok, nxt_nx, nxt_rt, br_some, tru_bl, fin_rt, fin_nx, if_true, if_false, Bool.false_eq_true, gg0, gg1, gg2, gg3, gg4, gg5, gg6])
local macro_rules | `(tactic| walk_at "end") => `(tactic| simp [nxt_nx, nxt_rt, ss_nil, br_some, tru_bl, fin_rt, fin_nx, D.top, tops, *])

/-! ### nets and lowest usages -/
def foldE (par : Bool) : List (Int × Int) → Int → Int → Int × Int
  | [], t, l => (t, l)
  | (a, b) :: r, t, l => foldE par r (t + a) (if par then l + b else if t + b < l then t + b else l)
def extN : Nat → D → Int × Int
  | 0, _ => (0, 0)
  | _ + 1, .int i => (i, if i < 0 then i else 0)
  | k + 1, .tup [.str t, .tup xs] => foldE (decide (t = "par")) (xs.map (extN k)) 0 0
  | k + 1, .tup [.str t, .int c, x] => if c = 0 then (0, 0) else if t = "copies" then (c * (extN k x).1, c * (extN k x).2) else (c * (extN k x).1, (extN k x).2 + (if (c - 1) * (extN k x).1 < 0 then (c - 1) * (extN k x).1 else 0))
  | _, _ => (0, 0)
/-- low is at most 0 and at most the net; both are bounded -/
def okE (b : Int) (p : Int × Int) : Prop := p.2 ≤ 0 ∧ p.2 ≤ p.1 ∧ -(b * big) ≤ p.2 ∧ p.1 ≤ b * big ∧ -(b * big) ≤ p.1
theorem foldE_ok {par : Bool} : ∀ (ps : List (Int × Int)) (bs : List Int) (t l s : Int), ps.length = bs.length → (∀ x ∈ ps.zip bs, okE x.2 x.1 ∧ 0 ≤ x.2) → 0 ≤ s → okE s (t, l) → okE (s + bs.sum) (foldE par ps t l)
  | [], [], t, l, s, _, _, _, h => by simpa [foldE] using h
  | [], _ :: _, _, _, _, h, _, _, _ => by cases h
  | _ :: _, [], _, _, _, h, _, _, _ => by cases h
  | (a, b) :: ps, c :: bs, t, l, s, hl, hx, hs, h => by
    obtain ⟨⟨h1, h2, h3, h4, h5⟩, hc⟩ := hx ((a, b), c) (by simp)
    obtain ⟨k1, k2, k3, k4, k5⟩ := h
    simp only at h1 h2 h3 h4 h5 k1 k2 k3 k4 k5 hc
    have e : s + (c :: bs).sum = (s + c) + bs.sum := by simp [Int.add_assoc]
    rw [e]
    simp only [foldE]
    have em : (s + c) * big = s * big + c * big := Int.add_mul _ _ _
    refine foldE_ok ps bs _ _ (s + c) (by simpa using hl) (fun x hx' => hx x (by simp [hx'])) (by omega) ?_
    generalize hS : s * big = S at *
    generalize hC : c * big = C at *
    refine ⟨?_, ?_, ?_, ?_, ?_⟩ <;> simp only [em]
    · cases par
      · simp only [Bool.false_eq_true, if_false]; split <;> omega
      · simp only [if_true]; omega
    · cases par
      · simp only [Bool.false_eq_true, if_false]; split <;> omega
      · simp only [if_true]; omega
    · cases par
      · simp only [Bool.false_eq_true, if_false]; split <;> omega
      · simp only [if_true]; omega
    · omega
    · omega
theorem zip_meas {k : Nat} : ∀ {xs : List D} {ps : List (Int × Int)}, xs.map (measM k) = ps.map some → ∀ z ∈ (xs.map (extN k)).zip (ps.map (·.2)), ∃ x ∈ xs, ∃ p, measM k x = some p ∧ z = (extN k x, p.2)
  | [], [], _, z, hz => by simp at hz
  | [], _ :: _, h, _, _ => by cases h
  | _ :: _, [], h, _, _ => by cases h
  | x :: xs, p :: ps, h, z, hz => by
    simp only [List.map_cons, List.cons.injEq] at h
    simp only [List.map_cons, List.zip_cons_cons, List.mem_cons] at hz
    rcases hz with rfl | hz
    · exact ⟨x, by simp, p, h.1, rfl⟩
    · obtain ⟨y, hy, q, h1, h2⟩ := zip_meas h.2 z hz
      exact ⟨y, by simp [hy], q, h1, h2⟩
theorem extN_ok : ∀ {k : Nat} {d : D} {a b : Int}, measM k d = some (a, b) → okE b (extN k d) := by
  intro k
  induction k with
  | zero => intro d a b h; simp [measM] at h
  | succ k ih =>
    intro d a b h
    have hb0 := (measM_ok _ _ _ h).2.2.1
    have h' := h
    rcases measM_shape h with ⟨i, rfl, rfl, rfl⟩ | ⟨t, xs, rfl, hg, hl, hf⟩ | ⟨t, i, x, u, v, rfl, hm, hg, h1, h2, hx, h3, h4, rfl, rfl⟩
    · simp only [measM] at h'
      split at h'
      · rename_i c
        simp only [extN]
        refine ⟨?_, ?_, ?_, ?_, ?_⟩ <;> simp only [Int.one_mul] <;> first | omega | (split <;> omega)
      · cases h'
    · obtain ⟨ps, hm, ha, hb⟩ := foldM_sum xs 1 0 a b hf
      have hl' : xs.length = ps.length := by have := congrArg List.length hm; simpa using this
      simp only [extN]
      rw [hb]
      refine foldE_ok (xs.map (extN k)) (ps.map (·.2)) 0 0 0 (by simp [hl']) (fun z hz => ?_) (by decide) ⟨by decide, by decide, by simp, by simp, by simp⟩
      obtain ⟨x, hx, p, h1, rfl⟩ := zip_meas hm z hz
      exact ⟨ih h1, (measM_ok _ _ _ h1).2.2.1⟩
    · obtain ⟨k1, k2, k3, k4, k5⟩ := ih hx
      have v0 := (measM_ok _ _ _ hx).2.2.1
      simp only at v0
      generalize hE : extN k x = ee at *
      obtain ⟨tt, ll⟩ := ee
      simp only at k1 k2 k3 k4 k5
      have im : i * v * big = i * (v * big) := Int.mul_assoc _ _ _
      generalize hV : v * big = VB at *
      simp only [extN, hE]
      split
      · rename_i hi0
        subst hi0
        refine ⟨?_, ?_, ?_, ?_, ?_⟩ <;> simp only [im] <;> simp
      · have i1 : 1 ≤ i := by omega
        have m1 : i * ll ≤ i * 0 := Int.mul_le_mul_of_nonneg_left k1 (by omega)
        have m2 : i * ll ≤ i * tt := Int.mul_le_mul_of_nonneg_left k2 (by omega)
        have m3 : i * (-VB) ≤ i * ll := Int.mul_le_mul_of_nonneg_left k3 (by omega)
        have m4 : i * tt ≤ i * VB := Int.mul_le_mul_of_nonneg_left k4 (by omega)
        have m5 : i * (-VB) ≤ i * tt := Int.mul_le_mul_of_nonneg_left k5 (by omega)
        have m6 : i * (-VB) = -(i * VB) := Int.mul_neg _ _
        have m7 : (i - 1) * tt = i * tt - tt := by rw [Int.sub_mul, Int.one_mul]
        have m8 : (i - 1) * VB = i * VB - VB := by rw [Int.sub_mul, Int.one_mul]
        have m9 : (i - 1) * (-VB) ≤ (i - 1) * tt := Int.mul_le_mul_of_nonneg_left k5 (by omega)
        have m10 : (i - 1) * (-VB) = -((i - 1) * VB) := Int.mul_neg _ _
        have m11 : i * 0 = 0 := Int.mul_zero _
        have m12 : (i - 1) * (-VB) = i * (-VB) + VB := by rw [Int.sub_mul, Int.one_mul]; omega
        have m13 : 0 ≤ (i - 1) * VB := Int.mul_nonneg (by omega) (by omega)
        split
        · refine ⟨?_, ?_, ?_, ?_, ?_⟩ <;> simp only [im] <;> omega
        · refine ⟨?_, ?_, ?_, ?_, ?_⟩ <;> simp only [im] <;> (try split) <;> omega
end Qk04

namespace Qk04
open PySem RP
local macro_rules | `(tactic| walk_at "ev") => `(tactic| simp only [e_v, lkV_some, lkG_some, e_k, e_g, e_tup, e_lst, e_bin, e_cmp, e_chain, e_neg, e_not, e_and, e_or, e_ife, e_ix, e_call, e_bi, e_isi, e_mt, e_sl, e_rev, e_comp, es_nil, es_cons, i_seq, i_rng, a_nm, a_two, a_tup, a_sub, s_ex', s_asg', s_two', s_aug', s_ret', s_ife', s_for', s_skip', ss_nil, ss_cons, it_tup, RP.neg_int, putTo_some, bi_len_tup, b_add, b_sub, c_lt, c_le, c_gt, c_ge, c_eqi, c_nei, c_isN, c_notN, isB_bl, sz0, sz1, sz2, sz3, sz4, sz5, sz6, sz7, ix0, ix1, ix2, List.map_cons, List.map_nil, List.cons_append, List.nil_append, Nat.sub_self, List.replicate, List.getElem?_cons_zero, List.getElem?_cons_succ, List.set_cons_zero, List.set_cons_succ, Res.bind_ok, nxt_nx, nxt_rt, br_some, tru_bl, fin_rt, fin_nx, if_true, if_false, Bool.false_eq_true, gg0, gg1, gg2, gg3, gg4, gg5, gg6])
local macro_rules | `(tactic| walk_at "end") => `(tactic| simp [nxt_nx, nxt_rt, ss_nil, br_some, tru_bl, fin_rt, fin_nx, D.top, tops, *])

def encE (p : Int × Int) : D := .tup [.int p.1, .int p.2]
theorem encE_top (p : Int × Int) : (encE p).top = 0 := rfl
theorem okE.small {b : Int} {p : Int × Int} (h : okE b p) (h0 : 0 ≤ b) (hb : b ≤ big) : p.1.natAbs < 2 ^ 9000 ∧ p.2.natAbs < 2 ^ 9000 := by
  obtain ⟨h1, h2, h3, h4, h5⟩ := h
  have m : b * big ≤ big * big := Int.mul_le_mul_of_nonneg_right hb (by decide)
  have q : big * big < 2 ^ 250 := by decide
  have z : ∀ x : Int, -(2 ^ 250) < x → x < 2 ^ 250 → x.natAbs < 2 ^ 9000 := fun x x1 x2 => Nat.lt_of_lt_of_le (show x.natAbs < 2 ^ 250 by omega) (Nat.pow_le_pow_right (by decide) (by decide))
  generalize hB : b * big = B at *
  generalize hC : big * big = C at *
  exact ⟨z _ (by omega) (by omega), z _ (by omega) (by omega)⟩
theorem min_eq (a b : Int) {st : Sto} : bi .min [.int a, .int b] st = .ok (.int (if b < a then b else a)) st := rfl
/-- the loop of extent_of_parts -/
theorem ext_loop {n m : Nat} {t : Str} {st : Sto} {ys : List D} (w : Wf st) (hm : m < st.length) (hs : st[m]? = some (.lst ys)) :
    ∀ (ps : List (Int × Int)) (tt ll : Int) (e4 e5 : Option D), 
      ∃ e4' e5', forLoop (asg gl (callN gl P n) (.two (.nm 4) (.nm 5))) (evSs gl (callN gl P n) b9f0) (some (m, ys)) st.length (ps.map encE) [some (.str t), some (.ref m), some (.int tt), some (.int ll), e4, e5] st
        = .ok (.nx [some (.str t), some (.ref m), some (.int (foldE (decide (t = "par")) ps tt ll).1), some (.int (foldE (decide (t = "par")) ps tt ll).2), e4', e5']) st
  | [], tt, ll, e4, e5 => ⟨e4, e5, by simp [forLoop, still, hs, O.items, sames_self, foldE]⟩
  | (a, b) :: ps, tt, ll, e4, e5 => by
    obtain ⟨e4', e5', ih⟩ := ext_loop (n := n) (t := t) w hm hs ps (tt + a) (if decide (t = "par") then ll + b else if tt + b < ll then tt + b else ll) (some (.int a)) (some (.int b))
    refine ⟨e4', e5', ?_⟩
    have st1 : still (some (m, ys)) st = true := by simp [still, hs, O.items, sames_self]
    have hb : evSs gl (callN gl P n) b9f0 [some (.str t), some (.ref m), some (.int tt), some (.int ll), some (.int a), some (.int b)] st = .ok (.nx [some (.str t), some (.ref m), some (.int (tt + a)), some (.int (if decide (t = "par") then ll + b else if tt + b < ll then tt + b else ll)), some (.int a), some (.int b)]) st := by
      simp only [b9f0]
      walk_at "ev"
      simp only [c_eqstr]
      walk_at "ev"
      cases decide (t = "par")
      · simp only [Bool.false_eq_true, if_false, min_eq]
        walk_at "ev"
        simp only [augD]
        walk_at "ev"
      · simp only [if_true]
        walk_at "ev"
        simp only [augD]
        walk_at "ev"
    simp only [List.map_cons, encE, forLoop, st1, if_true]
    walk_at "ev"
    rw [hb]
    walk_at "ev"
    rw [trim_id w (by simp [envTop, D.top]; omega)]
    simp only [foldE]
    exact ih
theorem extent_of_parts_eq {n m : Nat} {t : Str} {st : Sto} {ps : List (Int × Int)} (w : Wf st) (hs : st[m]? = some (.lst (ps.map encE))) :
    callN gl P (n + 1) 9 [.str t, .ref m] st = .ok (encE (foldE (decide (t = "par")) ps 0 0)) st := by
  have e := trim_id (t := 0) w (Nat.zero_le _)
  have hm : m < st.length := (List.getElem?_eq_some_iff.mp hs).1
  rw [call_eq p9 rfl]
  simp only [b9]
  walk_at "ev"
  rw [it_ref hs]
  walk_at "ev"
  obtain ⟨e4', e5', lp⟩ := ext_loop (n := n) (t := t) w hm hs ps 0 0 none none
  simp only [O.items]
  rw [lp]
  walk_at "ev"
  simp only [encE, D.top, tops, Nat.max_self, e]
theorem extent_by_eq : ∀ (k : Nat) (d : D) (st : Sto) (n : Nat) (a b : Int), pur d = true → Wf st → measM k d = some (a, b) → callN gl P (n + k + 1) 8 [d] st = .ok (encE (extN k d)) st
  | 0, d, st, n, a, b, hd, w, h => by simp [measM] at h
  | k + 1, d, st, n, a, b, hd, w, h => by
    have e := trim_id (t := 0) w (Nat.zero_le _)
    rw [show n + (k + 1) + 1 = (n + k + 1) + 1 from rfl, call_eq (n := n + k + 1) p8 rfl]
    simp only [b8]
    walk_at "ev"
    rw [is_node_eq w (pur_le hd _)]
    walk_at "ev"
    have hq : ∀ t, ([D.str "seq", D.str "par"].any fun y => eqF y (.str t)) = isG (.str t) := fun _ => rfl
    rcases measM_shape h with ⟨i, rfl, rfl, rfl⟩ | ⟨t, xs, rfl, hg, hl, hf⟩ | ⟨t, i, x, u, v, rfl, hm, hg, h1, h2, hx, h3, h4, rfl, rfl⟩
    · simp only [tyB]
      walk_at "ev"
      rw [min_eq]
      walk_at "ev"
      simp only [D.top, tops, Nat.max_self, e, encE, extN]
    · simp only [tyB]
      walk_at "ev"
      rw [c_in (ys := [.str "seq", .str "par"]) rfl rfl, hq, hg]
      walk_at "ev"
      have hp : purs xs = true := by simp [pur, purs] at hd; exact hd.2
      obtain ⟨ps, hm, ha, hb⟩ := foldM_sum xs 1 0 a b hf
      rw [comp_mir (g := fun x => encE (extN k x)) w (fun x hx => rfl) hl (fun x hx st' w' => ?_)]
      · walk_at "ev"
        have es : xs.map (fun x => encE (extN k x)) = (xs.map (extN k)).map encE := by simp
        have wl : Wf (st ++ [O.lst (xs.map fun x => encE (extN k x))]) := wf_last w (by rw [tops_of (fun y hy => by obtain ⟨x, _, rfl⟩ := List.mem_map.mp hy; rfl)]; exact Nat.zero_le _)
        rw [extent_of_parts_eq (n := n + k) (ps := xs.map (extN k)) wl (by rw [← es]; exact get_last)]
        walk_at "ev"
        rw [encE_top, trim_app w (Nat.zero_le _)]
        simp only [extN]
      · obtain ⟨p, hp'⟩ := all_some hm x hx
        simp only [b8c0]
        simp only [Tg.slots, wipeE]
        walk_at "ev"
        rw [extent_by_eq k x st' n p.1 p.2 (pur_mem hp x hx) w' hp']
    · simp only [tyB]
      walk_at "ev"
      rw [c_in (ys := [.str "seq", .str "par"]) rfl rfl, hq, hg]
      walk_at "ev"
      have hpx : pur x = true := by simp [pur, purs] at hd; exact hd.2
      rw [extent_by_eq k x st n u v hpx w hx]
      have ox := extN_ok hx
      obtain ⟨k1, k2, k3, k4⟩ := measM_ok _ _ _ hx
      obtain ⟨s1, s2⟩ := ox.small k3 k4
      have si := okP.small h1 h2
      simp only [extN]
      generalize extN k x = ee at *
      obtain ⟨tt, ll⟩ := ee
      simp only [encE] at *
      walk_at "ev"
      by_cases hi : i = 0
      · subst hi
        simp only [beq_self_eq_true, if_true]
        walk_at "ev"
        simp only [D.top, tops, Nat.max_self, e]
      · have hi' : (i == 0) = false := by simpa using hi
        simp only [hi', hi, if_false]
        walk_at "ev"
        simp only [c_eqstr]
        walk_at "ev"
        by_cases hc : t = "copies"
        · simp only [hc, decide_true, if_true]
          try walk_at "ev"
          rw [b_mul (mulOk_of si s1)]
          walk_at "ev"
          rw [b_mul (mulOk_of si s2)]
          walk_at "ev"
          simp only [D.top, tops, Nat.max_self, e]
        · simp only [hc, decide_false, if_false]
          try walk_at "ev"
          rw [b_mul (mulOk_of si s1)]
          walk_at "ev"
          rw [b_mul (mulOk_of (okP.small (by omega) (by omega)) s1)]
          walk_at "ev"
          rw [min_eq]
          walk_at "ev"
          simp only [D.top, tops, Nat.max_self, e]
theorem net_eq {n : Nat} {st : Sto} {d : D} {a b : Int} (hd : pur d = true) (w : Wf st) (hj : measM 13 d = some (a, b)) : callN gl P (n + 33) 12 [d] st = .ok (.int (extN 13 d).1) st := by
  have e := trim_id (t := 0) w (Nat.zero_le _)
  have hb : callN gl P (n + 32) 10 [d] st = .ok (.int (extN 13 d).1) st := by
    rw [call_eq (n := n + 31) p10 rfl]
    simp only [b10]
    walk_at "ev"
    rw [show n + 31 = (n + 17) + 13 + 1 from rfl, extent_by_eq 13 d st (n + 17) a b hd w hj]
    simp only [encE]
    walk_at "ev"
    simp only [D.top, e]
  rw [call_eq (n := n + 32) p12 rfl]
  simp only [b12]
  walk_at "ev"
  rw [check_job_eq (n := n + 1) hd w (by simp [isJob, hj])]
  walk_at "ev"
  rw [hb]
  walk_at "ev"
  simp only [D.top, e]
theorem lowest_eq {n : Nat} {st : Sto} {d : D} {a b : Int} (hd : pur d = true) (w : Wf st) (hj : measM 13 d = some (a, b)) : callN gl P (n + 33) 13 [d] st = .ok (.int (extN 13 d).2) st := by
  have e := trim_id (t := 0) w (Nat.zero_le _)
  have hb : callN gl P (n + 32) 11 [d] st = .ok (.int (extN 13 d).2) st := by
    rw [call_eq (n := n + 31) p11 rfl]
    simp only [b11]
    walk_at "ev"
    rw [show n + 31 = (n + 17) + 13 + 1 from rfl, extent_by_eq 13 d st (n + 17) a b hd w hj]
    simp only [encE]
    walk_at "ev"
    simp only [D.top, e]
  rw [call_eq (n := n + 32) p13 rfl]
  simp only [b13]
  walk_at "ev"
  rw [check_job_eq (n := n + 1) hd w (by simp [isJob, hj])]
  walk_at "ev"
  rw [hb]
  walk_at "ev"
  simp only [D.top, e]
end Qk04

namespace Qk04
open PySem RP
theorem isum_app (l r : List Int) : (l ++ r).sum = l.sum + r.sum := by
  induction l with
  | nil => simp
  | cons x l ih => simp only [List.cons_append, List.sum_cons, ih, Int.add_assoc]
theorem isum_rev (l : List Int) : l.reverse.sum = l.sum := by
  induction l with
  | nil => rfl
  | cons x l ih => rw [List.reverse_cons, isum_app, ih, List.sum_cons, List.sum_cons, List.sum_nil]; omega
theorem isum_pos {l : List Int} (h : ∀ x ∈ l, 0 ≤ x) : 0 ≤ l.sum := by
  induction l with
  | nil => exact Int.le_refl _
  | cons x l ih => rw [List.sum_cons]; have := h x (by simp); have := ih fun y hy => h y (by simp [hy]); omega
theorem foldM_of {f : D → Option (Int × Int)} : ∀ (xs : List D) (ps : List (Int × Int)) (n s : Int), xs.map f = ps.map some → (∀ p ∈ ps, 0 ≤ p.1 ∧ 0 ≤ p.2) → n + (ps.map (·.1)).sum ≤ 400 → s + (ps.map (·.2)).sum ≤ big →
    foldM f xs n s = some (n + (ps.map (·.1)).sum, s + (ps.map (·.2)).sum)
  | [], [], n, s, _, _, _, _ => by simp [foldM]
  | [], _ :: _, _, _, h, _, _, _ => by cases h
  | _ :: _, [], _, _, h, _, _, _ => by cases h
  | x :: xs, (a, b) :: ps, n, s, h, hp, h1, h2 => by
    simp only [List.map_cons, List.cons.injEq] at h
    simp only [List.map_cons, List.sum_cons] at h1 h2
    have q1 := isum_pos (l := ps.map (·.1)) fun x hx => by obtain ⟨p, hp', rfl⟩ := List.mem_map.mp hx; exact (hp p (by simp [hp'])).1
    have q2 := isum_pos (l := ps.map (·.2)) fun x hx => by obtain ⟨p, hp', rfl⟩ := List.mem_map.mp hx; exact (hp p (by simp [hp'])).2
    simp only [foldM, h.1]
    rw [if_neg (by omega), foldM_of xs ps _ _ h.2 (fun p hp' => hp p (by simp [hp'])) (by omega) (by omega)]
    simp only [List.map_cons, List.sum_cons, Int.add_assoc]
theorem meas_pos {k : Nat} {xs : List D} {ps : List (Int × Int)} (h : xs.map (measM k) = ps.map some) : ∀ p ∈ ps, 0 ≤ p.1 ∧ 0 ≤ p.2 := fun p hp => by
  have : some p ∈ xs.map (measM k) := by rw [h]; exact List.mem_map_of_mem hp
  obtain ⟨x, _, e⟩ := List.mem_map.mp this
  obtain ⟨k1, k2, k3, k4⟩ := measM_ok _ _ _ e
  exact ⟨by omega, k3⟩
theorem map_of {f g : D → D} {xs : List D} (h : ∀ x ∈ xs, f x = g x) : xs.map f = xs.map g := List.map_congr_left h
theorem mir_meas : ∀ {k : Nat} {d : D} {a b : Int}, measM k d = some (a, b) → measM k (mirN k d) = some (a, b) := by
  intro k
  induction k with
  | zero => intro d a b h; simp [measM] at h
  | succ k ih =>
    intro d a b h
    have h' := h
    rcases measM_shape h with ⟨i, rfl, rfl, rfl⟩ | ⟨t, xs, rfl, hg, hl, hf⟩ | ⟨t, i, x, u, v, rfl, hm, hg, h1, h2, hx, h3, h4, rfl, rfl⟩
    · simp only [mirN, measM] at h' ⊢
      split at h'
      · rename_i c; rw [if_pos (by omega)]
      · cases h'
    · obtain ⟨ps, hm, ha, hb⟩ := foldM_sum xs 1 0 a b hf
      have hok := foldM_ok (fun d p e => measM_ok k d p e) xs 1 0 (a, b) (by decide) (by decide) (by decide) (by decide) hf
      have hm' : (xs.map (mirN k)).map (measM k) = ps.map some := by
        rw [← hm, List.map_map]
        refine List.map_congr_left fun x hx => ?_
        obtain ⟨p, hp⟩ := all_some hm x hx
        rw [Function.comp_apply, hp]; exact ih hp
      have pos := meas_pos hm
      obtain ⟨o1, o2, o3, o4⟩ := hok
      simp only at o1 o2 o3 o4
      simp only [mirN, measM, hg, if_true, partsM]
      by_cases hs : t = "seq"
      · simp only [hs, decide_true, if_true, List.length_reverse, List.length_map]
        rw [if_neg (by omega), foldM_of _ ps.reverse 1 0 (by rw [List.map_reverse, hm', List.map_reverse]) (fun p hp => pos p (by simpa using hp)) (by rw [List.map_reverse, isum_rev]; omega) (by rw [List.map_reverse, isum_rev]; omega)]
        rw [List.map_reverse, isum_rev, List.map_reverse, isum_rev, ha, hb]
      · simp only [hs, decide_false, Bool.false_eq_true, if_false, List.length_map]
        rw [if_neg (by omega), foldM_of _ ps 1 0 hm' pos (by omega) (by omega), ha, hb]
    · simp only [mirN]
      simp only [measM, hm, if_true, multM, hx, ih hx] at h' ⊢
      exact h'
theorem mir_mir : ∀ {k : Nat} {d : D} {a b : Int}, measM k d = some (a, b) → mirN k (mirN k d) = d := by
  intro k
  induction k with
  | zero => intro d a b h; simp [measM] at h
  | succ k ih =>
    intro d a b h
    rcases measM_shape h with ⟨i, rfl, rfl, rfl⟩ | ⟨t, xs, rfl, hg, hl, hf⟩ | ⟨t, i, x, u, v, rfl, hm, hg, h1, h2, hx, h3, h4, rfl, rfl⟩
    · simp only [mirN]; congr 1; omega
    · obtain ⟨ps, hm, ha, hb⟩ := foldM_sum xs 1 0 a b hf
      have e : (xs.map (mirN k)).map (mirN k) = xs := by
        rw [List.map_map]
        conv => rhs; rw [← List.map_id xs]
        refine List.map_congr_left fun x hx => ?_
        obtain ⟨p, hp⟩ := all_some hm x hx
        exact ih (a := p.1) (b := p.2) hp
      by_cases hs : t = "seq"
      · simp only [mirN, hs, decide_true, if_true]
        rw [List.map_reverse, List.reverse_reverse, e]
      · simp only [mirN, hs, decide_false, Bool.false_eq_true, if_false]
        rw [e]
    · simp only [mirN, ih hx]
/-! ### the extent of a mirror -/
def cmb (x y : Int × Int) : Int × Int := (x.1 + y.1, if x.1 + y.2 < x.2 then x.1 + y.2 else x.2)
def inv (x : Int × Int) : Int × Int := (0 - x.1, x.2 - x.1)
theorem foldE_cmb : ∀ (ps : List (Int × Int)) (t l : Int), foldE false ps t l = ps.foldl cmb (t, l)
  | [], _, _ => rfl
  | (a, b) :: ps, t, l => by simp only [foldE, Bool.false_eq_true, if_false, List.foldl_cons]; rw [foldE_cmb ps]; rfl
theorem pext {x y : Int × Int} (h1 : x.1 = y.1) (h2 : x.2 = y.2) : x = y := by cases x; cases y; simp_all
theorem cmb_assoc (x y z : Int × Int) : cmb (cmb x y) z = cmb x (cmb y z) := by
  refine pext ?_ ?_ <;> simp only [cmb]
  · omega
  · repeat' split
    all_goals omega
theorem inv_cmb (x y : Int × Int) : inv (cmb x y) = cmb (inv y) (inv x) := by
  refine pext ?_ ?_ <;> simp only [cmb, inv]
  · omega
  · repeat' split
    all_goals omega
theorem inv_foldl : ∀ (ps : List (Int × Int)) (z : Int × Int), (∀ p ∈ ps, p.2 ≤ p.1) → z.2 ≤ z.1 → inv (ps.foldl cmb z) = cmb (ps.foldr (fun x y => cmb y (inv x)) (0, 0)) (inv z)
  | [], z, _, hz => by
    refine pext ?_ ?_ <;> simp only [cmb, inv, List.foldl_nil, List.foldr_nil]
    · omega
    · first | omega | (split <;> omega)
  | p :: ps, z, hp, hz => by
    have := hp p (by simp)
    rw [List.foldl_cons, List.foldr_cons, inv_foldl ps _ (fun q hq => hp q (by simp [hq])) (by simp only [cmb]; split <;> omega), inv_cmb, cmb_assoc]
theorem foldr_le : ∀ (ps : List (Int × Int)), (∀ p ∈ ps, p.2 ≤ 0) → (ps.foldr (fun x y => cmb y (inv x)) ((0 : Int), (0 : Int))).2 ≤ (ps.foldr (fun x y => cmb y (inv x)) ((0 : Int), (0 : Int))).1
  | [], _ => Int.le_refl _
  | p :: ps, hp => by
    have := hp p (by simp)
    have := foldr_le ps fun q hq => hp q (by simp [hq])
    rw [List.foldr_cons]
    generalize ps.foldr (fun x y => cmb y (inv x)) ((0 : Int), (0 : Int)) = w at *
    simp only [cmb, inv]
    first | omega | (split <;> omega)
theorem foldE_inv {ps : List (Int × Int)} (h1 : ∀ p ∈ ps, p.2 ≤ 0) (h2 : ∀ p ∈ ps, p.2 ≤ p.1) : foldE false (ps.map inv).reverse 0 0 = inv (foldE false ps 0 0) := by
  rw [foldE_cmb, foldE_cmb, inv_foldl ps (0, 0) h2 (Int.le_refl _), List.foldl_reverse, List.foldr_map]
  have := foldr_le ps h1
  generalize ps.foldr (fun x y => cmb y (inv x)) ((0 : Int), (0 : Int)) = w at *
  refine pext ?_ ?_ <;> simp only [cmb, inv]
  · omega
  · first | omega | (split <;> omega)
theorem foldE_par : ∀ (ps : List (Int × Int)) (t l : Int), foldE true (ps.map inv) (0 - t) (l - t) = inv (foldE true ps t l)
  | [], t, l => rfl
  | (a, b) :: ps, t, l => by
    simp only [List.map_cons, inv, foldE, if_true]
    have := foldE_par ps (t + a) (l + b)
    rw [show 0 - t + (0 - a) = 0 - (t + a) by omega, show l - t + (b - a) = l + b - (t + a) by omega]
    exact this
theorem ext_mir : ∀ {k : Nat} {d : D} {a b : Int}, measM k d = some (a, b) → extN k (mirN k d) = inv (extN k d) := by
  intro k
  induction k with
  | zero => intro d a b h; simp [measM] at h
  | succ k ih =>
    intro d a b h
    rcases measM_shape h with ⟨i, rfl, rfl, rfl⟩ | ⟨t, xs, rfl, hg, hl, hf⟩ | ⟨t, i, x, u, v, rfl, hm, hg, h1, h2, hx, h3, h4, rfl, rfl⟩
    · simp only [mirN, extN]
      refine pext rfl ?_
      simp only [inv]
      repeat' split
      all_goals omega
    · obtain ⟨ps, hm, ha, hb⟩ := foldM_sum xs 1 0 a b hf
      have e : (xs.map (mirN k)).map (extN k) = (xs.map (extN k)).map inv := by
        rw [List.map_map, List.map_map]
        refine List.map_congr_left fun x hx => ?_
        obtain ⟨p, hp⟩ := all_some hm x hx
        exact ih (a := p.1) (b := p.2) hp
      have ok : ∀ q ∈ xs.map (extN k), q.2 ≤ 0 ∧ q.2 ≤ q.1 := fun q hq => by
        obtain ⟨x, hx, rfl⟩ := List.mem_map.mp hq
        obtain ⟨p, hp⟩ := all_some hm x hx
        have := extN_ok (a := p.1) (b := p.2) hp
        exact ⟨this.1, this.2.1⟩
      by_cases hs : t = "seq"
      · have hp : ("seq" : Str) ≠ "par" := by decide
        simp only [mirN, extN, hs, decide_true, if_true, hp, decide_false]
        rw [List.map_reverse, e]
        exact foldE_inv (fun p hp => (ok p hp).1) fun p hp => (ok p hp).2
      · have ht : t = "par" := by
          simp [isG, eqF] at hg
          rcases hg with rfl | rfl
          · exact absurd rfl hs
          · rfl
        subst ht
        simp only [mirN, extN, hs, decide_false, Bool.false_eq_true, if_false, decide_true]
        rw [e]
        exact foldE_par _ 0 0
    · simp only [mirN, extN, ih hx]
      generalize extN k x = ee
      obtain ⟨tt, ll⟩ := ee
      simp only [inv]
      by_cases hi : i = 0
      · simp only [hi, if_true]; rfl
      · simp only [hi, if_false]
        have m1 : i * (0 - tt) = 0 - i * tt := by rw [Int.mul_sub, Int.mul_zero]
        have m2 : i * (ll - tt) = i * ll - i * tt := Int.mul_sub _ _ _
        have m3 : (i - 1) * (0 - tt) = 0 - (i - 1) * tt := by rw [Int.mul_sub, Int.mul_zero]
        have m4 : (i - 1) * tt = i * tt - tt := by rw [Int.sub_mul, Int.one_mul]
        by_cases hc : t = "copies"
        · simp only [hc, if_true, m1, m2]
        · simp only [hc, if_false]
          refine pext m1 ?_
          simp only [m1, m3, m4]
          repeat' split
          all_goals omega
/-! ### the mirror of a drawn job is such a job; its text -/
theorem Gen.mir : ∀ {k : Nat} {d : D}, Gen k d → ∀ j, Gen k (mirN j d)
  | _, _, h, 0 => h
  | _, _, .step h1 h2, j + 1 => .step (by omega) (by omega)
  | _, _, .grp (xs := xs) h1 h2 h3 h4, j + 1 => by
    simp only [mirN]
    refine .grp h1 h2 (by split <;> simpa using h3) fun y hy => ?_
    have hy' : y ∈ xs.map (mirN j) := by
      split at hy
      · exact List.mem_reverse.mp hy
      · exact hy
    obtain ⟨x, hx, rfl⟩ := List.mem_map.mp hy'
    exact (h4 x hx).mir j
  | _, _, .mul h1 h2 h3 h4 h5, j + 1 => .mul h1 h2 h3 h4 (h5.mir j)
def lb : Nat → Nat
  | 0 => 0
  | k + 1 => 2000 + 4 * lb k
theorem shows {lbk dk : Nat} : ∀ {xs : List D}, (∀ x ∈ xs, (pyP x).showable = true ∧ (pyP x).depth ≤ dk ∧ (pyP x).shown.length ≤ lbk) →
    PyData.showableAll (pyPs xs) = true ∧ PyData.depthAll (pyPs xs) ≤ dk ∧ ((PyData.shownAll (pyPs xs)).map (·.length)).sum ≤ lbk * xs.length ∧ (PyData.shownAll (pyPs xs)).length = xs.length
  | [], _ => ⟨rfl, Nat.zero_le _, Nat.le_refl _, rfl⟩
  | x :: xs, h => by
    obtain ⟨a1, a2, a3⟩ := h x (by simp)
    obtain ⟨b1, b2, b3, b4⟩ := shows (lbk := lbk) (dk := dk) (xs := xs) fun y hy => h y (by simp [hy])
    refine ⟨?_, ?_, ?_, ?_⟩
    · simp only [pyPs, PyData.showableAll, a1, b1, Bool.and_self]
    · simp only [pyPs, PyData.depthAll]; omega
    · simp only [pyPs, PyData.shownAll, List.map_cons, List.sum_cons, List.length_cons, Nat.mul_add, Nat.mul_one]; omega
    · simp only [pyPs, PyData.shownAll, List.length_cons, b4]
theorem word_of {t : Str} (h : isG (.str t) = true ∨ isM (.str t) = true) : (PyData.shown (.str t)).length ≤ 20 ∧ PyData.showable (.str t) = true := by
  have : t = "seq" ∨ t = "par" ∨ t = "repeat" ∨ t = "copies" := by
    simp [isG, isM, eqF] at h
    rcases h with (h | h) | (h | h) <;> simp [← h]
  rcases this with rfl | rfl | rfl | rfl <;> exact ⟨by decide +kernel, by decide +kernel⟩
theorem Gen.show : ∀ {k : Nat} {d : D}, Gen k d → (pyP d).showable = true ∧ (pyP d).depth ≤ 2 * k ∧ (pyP d).shown.length ≤ lb k
  | k + 1, _, .step (i := i) h1 h2 => by
    have hi : i.natAbs < 2 ^ 1900 := Nat.lt_of_lt_of_le (show i.natAbs < 2 ^ 100 by unfold big at h1 h2; omega) (Nat.pow_le_pow_right (by decide) (by decide))
    refine ⟨showable_int hi, by simp [pyP, PyData.depth], ?_⟩
    have := int_len hi
    simp only [pyP, lb]; omega
  | k + 1, _, .grp (t := t) (xs := xs) h1 h2 h3 h4 => by
    obtain ⟨b1, b2, b3, b4⟩ := shows (lbk := lb k) (dk := 2 * k) (xs := xs) fun y hy => (h4 y hy).show
    obtain ⟨w1, w2⟩ := word_of (Or.inl h1)
    refine ⟨?_, ?_, ?_⟩
    · simp [pyP, pyPs, PyData.showable, PyData.showableAll, b1]
    · simp only [pyP, pyPs, PyData.depth, PyData.depthAll]; omega
    · simp only [pyP, pyPs, PyData.shown, PyData.shownAll]
      have q1 := tupleText_len_le (PyData.shownAll (pyPs xs))
      have q2 := tupleText_len_le [PyData.shown (.str t), tupleText (PyData.shownAll (pyPs xs))]
      simp only [List.map_cons, List.map_nil, List.sum_cons, List.sum_nil, List.length_cons, List.length_nil] at q2
      have q3 : lb k * xs.length ≤ lb k * 4 := Nat.mul_le_mul_left _ h3
      simp only [PyData.shown] at q2 w1
      simp only [lb]
      omega
  | k + 1, _, .mul (t := t) (i := i) (x := x) h1 h2 h3 h4 h5 => by
    obtain ⟨b1, b2, b3⟩ := h5.show
    obtain ⟨w1, w2⟩ := word_of (Or.inr h1)
    have hi : i.natAbs < 2 ^ 1900 := Nat.lt_of_lt_of_le (show i.natAbs < 2 ^ 100 by unfold big at h4; omega) (Nat.pow_le_pow_right (by decide) (by decide))
    have li := int_len hi
    refine ⟨?_, ?_, ?_⟩
    · have := showable_int hi
      simp only [pyP, pyPs, PyData.showable, PyData.showableAll, b1, Bool.and_true, Bool.true_and] at this ⊢
      exact this
    · simp only [pyP, pyPs, PyData.depth, PyData.depthAll]; omega
    · simp only [pyP, pyPs]
      have e : PyData.shown (.tuple [.str t, .int i, pyP x]) = tupleText [PyData.shown (.str t), PyData.shown (.int i), (pyP x).shown] := by simp only [PyData.shown, PyData.shownAll]
      rw [e]
      have q2 := tupleText_len_le [PyData.shown (.str t), PyData.shown (.int i), (pyP x).shown]
      simp only [List.map_cons, List.map_nil, List.sum_cons, List.sum_nil, List.length_cons, List.length_nil] at q2
      simp only [lb]
      omega
theorem Gen.reprs {d : D} (g : Gen 5 d) {st : Sto} : bi .repr [d] st = .ok (.str (pyP d).shown) st := by
  obtain ⟨a1, a2, a3⟩ := g.show
  have l5 : lb 5 ≤ sizeLine := by decide
  have r : reprOk (pyP d) = true := by
    unfold reprOk
    simp only [Bool.and_eq_true, decide_eq_true_eq]
    exact ⟨⟨a1, by omega⟩, by omega⟩
  simp only [bi, reprD, toPy_pur g.pur, r, pur_lay d g.pur]
  rfl
theorem Gen.eq_self {d : D} (g : Gen 5 d) {st : Sto} : eqD d d st = some true := by
  have lay := pur_lay d g.pur
  have e : eqP d d st = some true := by
    unfold eqP
    rw [toPy_pur g.pur]
    simp only
    rw [if_pos ⟨lay, lay, by have := g.show.2.1; omega⟩, PySem.SeqAt.eqv_refl _ lay]
  cases d <;> first | exact e | (simp [eqD])
end Qk04

namespace Qk04
open PySem RP
local macro_rules | `(tactic| walk_at "ev") => `(tactic| simp only [e_v, lkV_some, lkG_some, e_k, e_g, e_tup, e_lst, e_bin, e_cmp, e_chain, e_neg, e_not, e_and, e_or, e_ife, e_ix, e_call, e_bi, e_isi, e_mt, e_sl, e_rev, e_comp, es_nil, es_cons, i_seq, i_rng, a_nm, a_two, a_tup, a_sub, s_ex', s_asg', s_two', s_aug', s_ret', s_ife', s_for', s_skip', ss_nil, ss_cons, it_tup, RP.neg_int, putTo_some, bi_len_tup, b_add, b_sub, c_lt, c_le, c_gt, c_ge, c_eqi, c_nei, c_isN, c_notN, isB_bl, sz0, sz1, sz2, sz3, sz4, sz5, sz6, sz7, ix0, ix1, ix2, List.map_cons, List.map_nil, List.cons_append, List.nil_append, Nat.sub_self, List.replicate, List.getElem?_cons_zero, List.getElem?_cons_succ, List.set_cons_zero, List.set_cons_succ, Res.bind_ok, nxt_nx, nxt_rt, br_some, tru_bl, fin_rt, fin_nx, if_true, if_false, Bool.false_eq_true, gg0, gg1, gg2, gg3, gg4, gg5, gg6])
local macro_rules | `(tactic| walk_at "end") => `(tactic| simp [nxt_nx, nxt_rt, ss_nil, br_some, tru_bl, fin_rt, fin_nx, D.top, tops, *])

/-! ### the law's loop -/
structure Sc (ns : List Int) (st : Sto) : Prop where
  wf : Wf st
  at0 : st[0]? = some (.fro (ns.map D.int))
theorem Sc.pos {ns : List Int} {st : Sto} (h : Sc ns st) : 0 < st.length := (List.getElem?_eq_some_iff.mp h.at0).1
theorem Sc.trim {ns : List Int} {st : Sto} (h : Sc ns st) {n t : Nat} (hn : 0 < n) (hl : n ≤ st.length) : Sc ns (trim n t st) := by
  unfold RP.trim
  split
  · rename_i c
    refine ⟨fun o ho => ?_, ?_⟩
    · rw [List.length_take, Nat.min_eq_left hl]
      exact of_decide_eq_true (List.all_eq_true.mp c.2 o ho)
    · rw [List.getElem?_take, if_pos hn]; exact h.at0
  · exact h
theorem Sc.app {ns : List Int} {st : Sto} (h : Sc ns st) {o : O} (ho : o.top ≤ st.length + 1) : Sc ns (st ++ [o]) := by
  refine ⟨fun o' ho' => ?_, by rw [List.getElem?_append_left h.pos]; exact h.at0⟩
  rw [List.length_append, List.length_singleton]
  rcases List.mem_append.mp ho' with h1 | h1
  · exact Nat.le_succ_of_le (h.wf o' h1)
  · obtain rfl : o' = o := by simpa using h1
    exact ho
theorem repr_ints {st : Sto} {a b : Int} (ha : a.natAbs < 2 ^ 1900) (hb : b.natAbs < 2 ^ 1900) :
    bi .repr [.ref st.length] (st ++ [.lst [.int a, .int b]]) = .ok (.str (PyData.shown (.list [.int a, .int b]))) (st ++ [.lst [.int a, .int b]]) := by
  have e : toPy (st ++ [.lst [.int a, .int b]]) (.ref st.length) = some (.list [.int a, .int b]) := by
    simp only [toPy, pyW, rdN, get_last, O.items, pysW, Option.map_some]
  simp only [bi, reprD, e, repr_two ha hb]
  rfl
theorem repr_bool {st : Sto} {c : Bool} : bi .repr [.bl c] st = .ok (.str (PyData.shown (.bool c))) st := by
  have e : toPy st (.bl c) = some (.bool c) := rfl
  have r : reprOk (.bool c) = true := by cases c <;> decide +kernel
  simp only [bi, reprD, e, r]
  rfl
theorem small1900 {i : Int} (h1 : 0 ≤ i) (h2 : i ≤ big) : i.natAbs < 2 ^ 1900 := natAbs_lt (k := 100) h1 (by unfold big at h2; omega) (by decide)
theorem ten12 : (10 : Int) ^ (12 : Int).toNat = 1000000000000 := by decide
theorem ten9 : (10 : Int) ^ (9 : Int).toNat = 1000000000 := by decide
theorem ten6 : (10 : Int) ^ (6 : Int).toNat = 1000000 := by decide
theorem pow10 {j : Int} (h : 0 ≤ j) (h2 : j ≤ 1000) : powOk 10 j = true := powOk_of (natAbs_lt (k := 20) (by decide) (by decide) (by decide)) h h2
def CS : List D := [.int 0, .int 1, .int 2, .int 3, .int 1000000000000, .int 7]
theorem cnt_CS : Cnt CS := by
  refine ⟨by decide, by decide, fun d hd => ?_⟩
  simp [CS] at hd
  rcases hd with rfl | rfl | rfl | rfl | rfl | rfl <;> exact ⟨_, rfl, by decide, by decide⟩
def tail1 : Ss := (.cons (.two 4 5 (.bi .repr (.cons (.v 3) .nil)) (.call 15 (.cons (.v 3) .nil))) (.cons (.ife (.or (.cmp .ne (.bi .repr (.cons (.v 5) .nil)) (.bi .repr (.cons (.call 20 (.cons (.v 3) .nil)) .nil))) (.or (.cmp .ne (.call 15 (.cons (.v 5) .nil)) (.v 3)) (.cmp .ne (.bi .repr (.cons (.v 3) .nil)) (.v 4)))) (.cons (.ret (.k (.bl false))) .nil) .nil) (.cons (.ife (.cmp .ne (.bi .repr (.cons (.lst (.cons (.call 12 (.cons (.v 5) .nil)) (.cons (.call 13 (.cons (.v 5) .nil)) .nil))) .nil)) (.bi .repr (.cons (.lst (.cons (.bin .sub (.k (.int (0))) (.call 12 (.cons (.v 3) .nil))) (.cons (.bin .sub (.call 13 (.cons (.v 3) .nil)) (.call 12 (.cons (.v 3) .nil))) .nil))) .nil))) (.cons (.ret (.k (.bl false))) .nil) .nil) .nil)))
theorem f0_tail : b21f0 = .cons (.asg (.nm 2) (.call 16 (.cons (.v 0) (.cons (.v 1) .nil)))) (.cons (.asg (.nm 3) (.call 19 (.cons (.v 2) (.cons (.k (.int (5))) (.cons (.lst (.cons (.k (.int (0))) (.cons (.k (.int (1))) (.cons (.k (.int (2))) (.cons (.k (.int (3))) (.cons (.bin .pow (.k (.int (10))) (.k (.int (12)))) (.cons (.k (.int (7))) .nil))))))) .nil))))) (.cons (.ife (.not (.call 6 (.cons (.v 3) .nil))) (.cons (.asg (.nm 3) (.tup (.cons (.k (.str "par")) (.cons (.tup (.cons (.tup (.cons (.k (.str "seq")) (.cons (.tup (.cons (.k (.int (3))) (.cons (.tup (.cons (.k (.str "repeat")) (.cons (.bin .pow (.k (.int (10))) (.k (.int (12)))) (.cons (.tup (.cons (.k (.str "seq")) (.cons (.tup (.cons (.k (.int (2))) (.cons (.neg (.k (.int (3)))) .nil))) .nil))) .nil)))) .nil))) .nil))) (.cons (.neg (.k (.int (4)))) .nil))) .nil)))) .nil) .nil) tail1)) := rfl

def J1 : D := .tup [.str "par", .tup [.tup [.str "seq", .tup [.int 3, .tup [.str "repeat", .int 1000000000000, .tup [.str "seq", .tup [.int 2, .int (-3)]]]]], .int (-4)]]
theorem gen_J1 : Gen 5 J1 := by
  refine .grp isG_par ok_par (by decide) fun x hx => ?_
  simp only [List.mem_cons, List.not_mem_nil, or_false] at hx
  rcases hx with rfl | rfl
  · refine .grp isG_seq ok_seq (by decide) fun x hx => ?_
    simp only [List.mem_cons, List.not_mem_nil, or_false] at hx
    rcases hx with rfl | rfl
    · exact .step (by decide) (by decide)
    · refine .mul isM_repeat ok_repeat (by decide) (by decide) ?_
      refine .grp isG_seq ok_seq (by decide) fun x hx => ?_
      simp only [List.mem_cons, List.not_mem_nil, or_false] at hx
      rcases hx with rfl | rfl <;> exact .step (by decide) (by decide)
  · exact .step (by decide) (by decide)
theorem c_neself {d : D} (g : Gen 5 d) {st : Sto} : cmp .ne d d st = .ok (.bl false) st := by
  simp only [cmp, g.eq_self, Option.map_some, ofB, Bool.not_true]
theorem okE.small2 {b : Int} {p : Int × Int} (h : okE b p) (h0 : 0 ≤ b) (hb : b ≤ big) : p.1.natAbs < 2 ^ 250 ∧ p.2.natAbs < 2 ^ 250 := by
  obtain ⟨h1, h2, h3, h4, h5⟩ := h
  have m : b * big ≤ big * big := Int.mul_le_mul_of_nonneg_right hb (by decide)
  have q : big * big < 2 ^ 250 := by decide
  generalize hB : b * big = B at *
  generalize hC : big * big = C at *
  exact ⟨by omega, by omega⟩
theorem lt1900 {i : Int} (h : i.natAbs < 2 ^ 260) : i.natAbs < 2 ^ 1900 := Nat.lt_of_lt_of_le h (Nat.pow_le_pow_right (by decide) (by decide))
/-- what follows once the job is there -/
theorem ask_job {n : Nat} {ns : List Int} {st : Sto} {d : D} {e0 e1 e2 e4 e5 : Option D} (h : Sc ns st) (g : Gen 5 d) (hj : isJob d = true) :
    ∃ e4' e5' st', evSs gl (callN gl P (n + 33)) tail1 [e0, e1, e2, some d, e4, e5] st = .ok (.nx [e0, e1, e2, some d, e4', e5']) st' ∧ Sc ns st' ∧ st.length ≤ st'.length := by
  unfold isJob at hj
  rw [Option.isSome_iff_exists] at hj
  obtain ⟨⟨a, b⟩, hm⟩ := hj
  have g2 := g.mir 13
  have hm2 := mir_meas hm
  obtain ⟨k1, k2, k3, k4⟩ := measM_ok _ _ _ hm
  simp only at k1 k2 k3 k4
  obtain ⟨s1, s2⟩ := (extN_ok hm).small2 k3 k4
  have em := ext_mir hm
  have hx : ∀ ii : Int × Int, inv ii = (0 - ii.1, ii.2 - ii.1) := fun _ => rfl
  generalize hE : extN 13 d = ee at *
  obtain ⟨tt, ll⟩ := ee
  rw [hx] at em
  simp only at em s1 s2
  have f1 : callN gl P (n + 33) 15 [d] st = .ok (mirN 13 d) st := mirror_eq (n := n + 1) g.pur h.wf hm
  have f2 : callN gl P (n + 33) 20 [d] st = .ok (mirN 13 d) st := law_turned_eq 13 d st (n + 19) a b g.pur h.wf hm
  have f3 : callN gl P (n + 33) 15 [mirN 13 d] st = .ok d st := by
    have := mirror_eq (n := n + 1) g2.pur h.wf hm2
    rw [mir_mir hm] at this
    exact this
  have n2 := fun (st' : Sto) (w : Wf st') => net_eq (n := n) g2.pur w hm2
  have l2 := fun (st' : Sto) (w : Wf st') => lowest_eq (n := n) g2.pur w hm2
  have n1 := fun (st' : Sto) (w : Wf st') => net_eq (n := n) g.pur w hm
  have l1 := fun (st' : Sto) (w : Wf st') => lowest_eq (n := n) g.pur w hm
  simp only [em, hE] at n1 n2 l1 l2
  have h1 := h.app (o := .lst [.int (0 - tt), .int (ll - tt)]) (by simp [O.top, tops, D.top])
  have h2 := h1.app (o := .lst [.int (0 - tt), .int (ll - tt)]) (by simp [O.top, tops, D.top])
  simp only [tail1]
  walk_at "ev"
  rw [g.reprs]
  walk_at "ev"
  rw [f1]
  walk_at "ev"
  rw [g2.reprs]
  walk_at "ev"
  rw [f2]
  walk_at "ev"
  rw [g2.reprs]
  walk_at "ev"
  simp only [c_nestr, decide_true, Bool.not_true]
  walk_at "ev"
  rw [f3]
  walk_at "ev"
  rw [c_neself g]
  walk_at "ev"
  rw [g.reprs]
  walk_at "ev"
  simp only [c_nestr, decide_true, Bool.not_true]
  walk_at "ev"
  rw [n2 _ h.wf]
  walk_at "ev"
  rw [l2 _ h.wf]
  walk_at "ev"
  rw [repr_ints (lt1900 (by omega)) (lt1900 (by omega))]
  walk_at "ev"
  rw [n1 _ h1.wf]
  walk_at "ev"
  rw [l1 _ h1.wf]
  walk_at "ev"
  rw [n1 _ h1.wf]
  walk_at "ev"
  rw [repr_ints (lt1900 (by omega)) (lt1900 (by omega))]
  walk_at "ev"
  simp only [c_nestr, decide_true, Bool.not_true]
  walk_at "ev"
  exact ⟨_, _, _, rfl, h2, by simp⟩
/-- one cell -/
theorem ask_cell {n k : Nat} {ns : List Int} {st : Sto} {e2 e3 e4 e5 : Option D} (h : Sc ns st) (hk : k ≤ 1000) :
    ∃ e2' e3' e4' e5' st', evSs gl (callN gl P (n + 33)) b21f0 [some (.ref 0), some (.int (k : Int)), e2, e3, e4, e5] st = .ok (.nx [some (.ref 0), some (.int (k : Int)), e2', e3', e4', e5']) st' ∧ Sc ns st' ∧ st.length ≤ st'.length := by
  rw [f0_tail]
  walk_at "ev"
  obtain ⟨o, e1, p1⟩ := law_pot_eq (n := n + 32) h.wf h.at0 hk
  rw [e1]
  walk_at "ev"
  simp only [b_pow (pow10 (j := 12) (by decide) (by decide)), ten12]
  walk_at "ev"
  have h1 := h.app (o := o) (by rw [p1.top]; exact Nat.zero_le _)
  have h2 := h1.app (o := .lst CS) (by simp [O.top, tops, D.top, CS])
  have hp : Pots ((st ++ [o]) ++ [O.lst CS]) st.length 0 (st ++ [o]).length (.lst CS) := by
    refine ⟨h2.wf, ⟨o, ?_, p1⟩, get_last, by simp⟩
    rw [List.getElem?_append_left (by simp)]; exact get_last
  obtain ⟨d, o', q2, g2, p2⟩ := law_job_eq 4 (n + 26) 0 st.length (st ++ [o]).length _ CS cnt_CS hp (by decide)
  have hs := hp.set p2
  rw [show n + 26 + 4 + 3 = n + 33 from rfl, show (((4 + 1 : Nat)) : Int) = 5 from rfl] at q2
  have eC : (O.lst [D.int 0, .int 1, .int 2, .int 3, .int 1000000000000, .int 7]) = .lst CS := rfl
  rw [eC, q2]
  walk_at "ev"
  have h3 : Sc ns (((st ++ [o]) ++ [O.lst CS]).set st.length o') := by
    refine ⟨hs.wf, ?_⟩
    rw [List.getElem?_set_ne (by have := h.pos; omega)]
    exact h2.at0
  generalize hst : ((st ++ [o]) ++ [O.lst CS]).set st.length o' = st3 at h3 ⊢
  have l3 : st.length ≤ st3.length := by rw [← hst]; simp
  have ex : callN gl P (n + 33) 6 [d] st3 = .ok (.bl (isJob d)) st3 := is_job_eq (n := n + 3) g2.pur h3.wf
  rw [ex]
  walk_at "ev"
  cases hj : isJob d with
  | true =>
    walk_at "ev"
    obtain ⟨e4', e5', st', q, s, l⟩ := ask_job (n := n) (e0 := some (.ref 0)) (e1 := some (.int (k : Int))) (e2 := some (.ref st.length)) (e4 := e4) (e5 := e5) h3 g2 hj
    exact ⟨_, _, e4', e5', st', q, s, Nat.le_trans l3 l⟩
  | false =>
    walk_at "ev"
    simp only [b_pow (pow10 (j := 12) (by decide) (by decide)), ten12]
    walk_at "ev"
    try (simp only [b_pow (pow10 (j := 12) (by decide) (by decide)), ten12]; walk_at "ev")
    have eJ : D.tup [.str "par", .tup [.tup [.str "seq", .tup [.int 3, .tup [.str "repeat", .int 1000000000000, .tup [.str "seq", .tup [.int 2, .int (-3)]]]]], .int (-4)]] = J1 := rfl
    rw [eJ]
    obtain ⟨e4', e5', st', q, s, l⟩ := ask_job (n := n) (e0 := some (.ref 0)) (e1 := some (.int (k : Int))) (e2 := some (.ref st.length)) (e4 := e4) (e5 := e5) h3 gen_J1 (by decide +kernel)
    exact ⟨_, _, e4', e5', st', q, s, Nat.le_trans l3 l⟩
theorem ask_cells {n : Nat} {ns : List Int} {L : Nat} (hL : 0 < L) : ∀ (m k : Nat) (st : Sto) (e1 e2 e3 e4 e5 : Option D), k + m ≤ 1000 → Sc ns st → L ≤ st.length →
    ∃ e1' e2' e3' e4' e5' st', forLoop (asg gl (callN gl P (n + 33)) (.nm 1)) (evSs gl (callN gl P (n + 33)) b21f0) none L (numb (k : Int) m) [some (.ref 0), e1, e2, e3, e4, e5] st = .ok (.nx [some (.ref 0), e1', e2', e3', e4', e5']) st' ∧ Sc ns st'
  | 0, k, st, e1, e2, e3, e4, e5, _, h, _ => ⟨e1, e2, e3, e4, e5, st, by simp [numb, forLoop, still], h⟩
  | m + 1, k, st, e1, e2, e3, e4, e5, hk, h, hl => by
    obtain ⟨e2', e3', e4', e5', st1, q1, s1, l1⟩ := ask_cell (n := n) (k := k) (e2 := e2) (e3 := e3) (e4 := e4) (e5 := e5) h (by omega)
    have s2 : Sc ns (RP.trim L (envTop [some (.ref 0), some (.int (k : Int)), e2', e3', e4', e5']) st1) := s1.trim hL (Nat.le_trans hl l1)
    have l2 : L ≤ (RP.trim L (envTop [some (.ref 0), some (.int (k : Int)), e2', e3', e4', e5']) st1).length := by
      unfold RP.trim
      split
      · rw [List.length_take, Nat.min_eq_left (Nat.le_trans hl l1)]; exact Nat.le_refl _
      · exact Nat.le_trans hl l1
    obtain ⟨a, b, c, d, f, st', q2, s3⟩ := ask_cells hL m (k + 1) _ (some (.int (k : Int))) e2' e3' e4' e5' (by omega) s2 l2
    refine ⟨a, b, c, d, f, st', ?_, s3⟩
    simp only [numb, forLoop, still, if_true]
    walk_at "ev"
    rw [q1]
    walk_at "ev"
    exact q2
def JF : D := .tup [.str "par", .tup [.tup [.str "seq", .tup [.int 5, .int (-3)]], .tup [.str "repeat", .int 4, .int 0]]]
def JG : D := .tup [.str "par", .tup [.tup [.str "seq", .tup [.int 3, .int (-5)]], .tup [.str "repeat", .int 4, .int 0]]]
theorem meas_JF : measM 13 JF = some (6, 6) := by decide +kernel
theorem pur_JF : pur JF = true := by decide +kernel
theorem mir_JF : mirN 13 JF = JG := by rfl
theorem eq_JG {st : Sto} : cmp .eq JG JG st = .ok (.bl true) st := by
  have g : Gen 5 JG := by
    refine .grp isG_par ok_par (by decide) fun x hx => ?_
    simp only [List.mem_cons, List.not_mem_nil, or_false] at hx
    rcases hx with rfl | rfl
    · refine .grp isG_seq ok_seq (by decide) fun x hx => ?_
      simp only [List.mem_cons, List.not_mem_nil, or_false] at hx
      rcases hx with rfl | rfl <;> exact .step (by decide) (by decide)
    · exact .mul isM_repeat ok_repeat (by decide) (by decide) (.step (by decide) (by decide))
  simp only [cmp, g.eq_self, ofB]
theorem law_true : ∀ ns : List Int, ns.length ≤ 63 → ∃ st', callN tab.gl tab.P 100 21 [.ref 0] [.fro (ns.map D.int)] = .ok (.bl true) st' := by
  intro ns hn
  rw [tab_gl, tab_P, call_eq (n := 99) p21 rfl]
  have h : Sc ns [.fro (ns.map D.int)] := by
    refine ⟨fun o ho => ?_, rfl⟩
    obtain rfl : o = .fro (ns.map D.int) := by simpa using ho
    have : tops (ns.map D.int) = 0 := by
      clear hn ho
      induction ns with
      | nil => rfl
      | cons n r ih => simp only [List.map_cons, tops, D.top, ih]; rfl
    simp [O.top, this]
  simp only [b21]
  walk_at "ev"
  rw [bi_len_ref h.at0]
  walk_at "ev"
  simp only [O.items, List.length_map]
  have b1 : bi .min [.int 8, .int (ns.length : Int)] [.fro (ns.map D.int)] = .ok (.int (if (ns.length : Int) < 8 then (ns.length : Int) else 8)) [.fro (ns.map D.int)] := rfl
  rw [b1]
  walk_at "ev"
  have b2 : ∀ j : Int, bi .max [.int 1, .int j] [.fro (ns.map D.int)] = .ok (.int (if j > 1 then j else 1)) [.fro (ns.map D.int)] := fun _ => rfl
  rw [b2]
  walk_at "ev"
  generalize hN : (if (if (ns.length : Int) < 8 then (ns.length : Int) else 8) > 1 then (if (ns.length : Int) < 8 then (ns.length : Int) else 8) else 1) = N
  have N0 : 0 ≤ N := by rw [← hN]; split <;> omega
  have N8 : N ≤ 8 := by
    rw [← hN]
    split
    · split <;> omega
    · omega
  rw [rng_of (by omega)]
  walk_at "ev"
  obtain ⟨a, b, c, d, f, st', q, s⟩ := ask_cells (n := 66) (ns := ns) (L := [O.fro (ns.map D.int)].length) (by simp) (N - 0).toNat 0 [.fro (ns.map D.int)] none none none none none (by omega) h (Nat.le_refl _)
  rw [show (((0 : Nat)) : Int) = 0 from rfl] at q
  rw [q]
  walk_at "ev"
  have eF : D.tup [.str "par", .tup [.tup [.str "seq", .tup [.int 5, .int (-3)]], .tup [.str "repeat", .int 4, .int 0]]] = JF := rfl
  have eG : D.tup [.str "par", .tup [.tup [.str "seq", .tup [.int 3, .int (-5)]], .tup [.str "repeat", .int 4, .int 0]]] = JG := rfl
  rw [eF, show (99 : Nat) = 67 + 32 from rfl, mirror_eq pur_JF s.wf meas_JF, mir_JF]
  walk_at "ev"
  rw [eG, eq_JG]
  walk_at "ev"
  exact ⟨_, rfl⟩
end Qk04

namespace Qk04
open PySem L2 RP
theorem facts_mk {K : PySem.W.Frag} {h : Heap} {mg : Str → Option Value} (X : K.In h) (G : h.Ns mainGlobals mg)
    {f0 : Addr} {od0 an0 : Option Addr} {sl0 : Array (Option Value)} {oc0 kV0 dc0 pm0 cd0 ct0 : Value}
    {f1 : Addr} {od1 an1 : Option Addr} {sl1 : Array (Option Value)} {oc1 kV1 dc1 pm1 cd1 ct1 : Value}
    {f2 : Addr} {od2 an2 : Option Addr} {sl2 : Array (Option Value)} {oc2 kV2 dc2 pm2 cd2 ct2 : Value}
    {f3 : Addr} {od3 an3 : Option Addr} {sl3 : Array (Option Value)} {oc3 kV3 dc3 pm3 cd3 ct3 : Value}
    {f4 : Addr} {od4 an4 : Option Addr} {sl4 : Array (Option Value)} {oc4 kV4 dc4 pm4 cd4 ct4 : Value}
    {f5 : Addr} {od5 an5 : Option Addr} {sl5 : Array (Option Value)} {oc5 kV5 dc5 pm5 cd5 ct5 : Value}
    {f6 : Addr} {od6 an6 : Option Addr} {sl6 : Array (Option Value)} {oc6 kV6 dc6 pm6 cd6 ct6 : Value}
    {f7 : Addr} {od7 an7 : Option Addr} {sl7 : Array (Option Value)} {oc7 kV7 dc7 pm7 cd7 ct7 : Value}
    {f8 : Addr} {od8 an8 : Option Addr} {sl8 : Array (Option Value)} {oc8 kV8 dc8 pm8 cd8 ct8 : Value}
    {f9 : Addr} {od9 an9 : Option Addr} {sl9 : Array (Option Value)} {oc9 kV9 dc9 pm9 cd9 ct9 : Value}
    {f10 : Addr} {od10 an10 : Option Addr} {sl10 : Array (Option Value)} {oc10 kV10 dc10 pm10 cd10 ct10 : Value}
    {f11 : Addr} {od11 an11 : Option Addr} {sl11 : Array (Option Value)} {oc11 kV11 dc11 pm11 cd11 ct11 : Value}
    {f12 : Addr} {od12 an12 : Option Addr} {sl12 : Array (Option Value)} {oc12 kV12 dc12 pm12 cd12 ct12 : Value}
    {f13 : Addr} {od13 an13 : Option Addr} {sl13 : Array (Option Value)} {oc13 kV13 dc13 pm13 cd13 ct13 : Value}
    {f14 : Addr} {od14 an14 : Option Addr} {sl14 : Array (Option Value)} {oc14 kV14 dc14 pm14 cd14 ct14 : Value}
    {f15 : Addr} {od15 an15 : Option Addr} {sl15 : Array (Option Value)} {oc15 kV15 dc15 pm15 cd15 ct15 : Value}
    {f16 : Addr} {od16 an16 : Option Addr} {sl16 : Array (Option Value)} {oc16 kV16 dc16 pm16 cd16 ct16 : Value}
    {f17 : Addr} {od17 an17 : Option Addr} {sl17 : Array (Option Value)} {oc17 kV17 dc17 pm17 cd17 ct17 : Value}
    {f18 : Addr} {od18 an18 : Option Addr} {sl18 : Array (Option Value)} {oc18 kV18 dc18 pm18 cd18 ct18 : Value}
    {f19 : Addr} {od19 an19 : Option Addr} {sl19 : Array (Option Value)} {oc19 kV19 dc19 pm19 cd19 ct19 : Value}
    {f20 : Addr} {od20 an20 : Option Addr} {sl20 : Array (Option Value)} {oc20 kV20 dc20 pm20 cd20 ct20 : Value}
    {f21 : Addr} {od21 an21 : Option Addr} {sl21 : Array (Option Value)} {oc21 kV21 dc21 pm21 cd21 ct21 : Value}
    {t0 : Tok} {t1 : Tok} {t2 : Tok} {t3 : Tok} {t4 : Tok} {t6 : Tok} {t7 : Tok} {ta5 : Addr} {tod5 : Option Addr} {tn5 : Nat} {tsl5 : Array (Option Value)} {t9 : Tok} {t10 : Tok} {ta8 : Addr} {tod8 : Option Addr} {tn8 : Nat} {tsl8 : Array (Option Value)}
    (a0 : PySem.W.nsIn K mainGlobals "is_integer" = some (some (.ref f0))) (l0 : K.lookup f0 = some ⟨oc0, od0, .func (PySem.W.fnOf "is_integer" "is_integer" (defArgs (topS 4)) (defBody (topS 4)) (defScope (topS 4)) .none kV0 dc0 pm0 an0 cd0 ct0), sl0⟩) (c0 : PySem.W.codeIn K cd0 "is_integer" = true) (k0 : PySem.W.keepIn K (.ref f0) = true)
    (a1 : PySem.W.nsIn K mainGlobals "is_between" = some (some (.ref f1))) (l1 : K.lookup f1 = some ⟨oc1, od1, .func (PySem.W.fnOf "is_between" "is_between" (defArgs (topS 5)) (defBody (topS 5)) (defScope (topS 5)) .none kV1 dc1 pm1 an1 cd1 ct1), sl1⟩) (c1 : PySem.W.codeIn K cd1 "is_between" = true) (k1 : PySem.W.keepIn K (.ref f1) = true)
    (a2 : PySem.W.nsIn K mainGlobals "is_node" = some (some (.ref f2))) (l2 : K.lookup f2 = some ⟨oc2, od2, .func (PySem.W.fnOf "is_node" "is_node" (defArgs (topS 14)) (defBody (topS 14)) (defScope (topS 14)) .none kV2 dc2 pm2 an2 cd2 ct2), sl2⟩) (c2 : PySem.W.codeIn K cd2 "is_node" = true) (k2 : PySem.W.keepIn K (.ref f2) = true)
    (a3 : PySem.W.nsIn K mainGlobals "measured" = some (some (.ref f3))) (l3 : K.lookup f3 = some ⟨oc3, od3, .func (PySem.W.fnOf "measured" "measured" (defArgs (topS 15)) (defBody (topS 15)) (defScope (topS 15)) .none kV3 dc3 pm3 an3 cd3 ct3), sl3⟩) (c3 : PySem.W.codeIn K cd3 "measured" = true) (k3 : PySem.W.keepIn K (.ref f3) = true)
    (a4 : PySem.W.nsIn K mainGlobals "measured_parts" = some (some (.ref f4))) (l4 : K.lookup f4 = some ⟨oc4, od4, .func (PySem.W.fnOf "measured_parts" "measured_parts" (defArgs (topS 16)) (defBody (topS 16)) (defScope (topS 16)) .none kV4 dc4 pm4 an4 cd4 ct4), sl4⟩) (c4 : PySem.W.codeIn K cd4 "measured_parts" = true) (k4 : PySem.W.keepIn K (.ref f4) = true)
    (a5 : PySem.W.nsIn K mainGlobals "measured_multiple" = some (some (.ref f5))) (l5 : K.lookup f5 = some ⟨oc5, od5, .func (PySem.W.fnOf "measured_multiple" "measured_multiple" (defArgs (topS 17)) (defBody (topS 17)) (defScope (topS 17)) .none kV5 dc5 pm5 an5 cd5 ct5), sl5⟩) (c5 : PySem.W.codeIn K cd5 "measured_multiple" = true) (k5 : PySem.W.keepIn K (.ref f5) = true)
    (a6 : PySem.W.nsIn K mainGlobals "is_job" = some (some (.ref f6))) (l6 : K.lookup f6 = some ⟨oc6, od6, .func (PySem.W.fnOf "is_job" "is_job" (defArgs (topS 18)) (defBody (topS 18)) (defScope (topS 18)) .none kV6 dc6 pm6 an6 cd6 ct6), sl6⟩) (c6 : PySem.W.codeIn K cd6 "is_job" = true) (k6 : PySem.W.keepIn K (.ref f6) = true)
    (a7 : PySem.W.nsIn K mainGlobals "check_job" = some (some (.ref f7))) (l7 : K.lookup f7 = some ⟨oc7, od7, .func (PySem.W.fnOf "check_job" "check_job" (defArgs (topS 19)) (defBody (topS 19)) (defScope (topS 19)) .none kV7 dc7 pm7 an7 cd7 ct7), sl7⟩) (c7 : PySem.W.codeIn K cd7 "check_job" = true) (k7 : PySem.W.keepIn K (.ref f7) = true)
    (a8 : PySem.W.nsIn K mainGlobals "extent_by" = some (some (.ref f8))) (l8 : K.lookup f8 = some ⟨oc8, od8, .func (PySem.W.fnOf "extent_by" "extent_by" (defArgs (topS 20)) (defBody (topS 20)) (defScope (topS 20)) .none kV8 dc8 pm8 an8 cd8 ct8), sl8⟩) (c8 : PySem.W.codeIn K cd8 "extent_by" = true) (k8 : PySem.W.keepIn K (.ref f8) = true)
    (a9 : PySem.W.nsIn K mainGlobals "extent_of_parts" = some (some (.ref f9))) (l9 : K.lookup f9 = some ⟨oc9, od9, .func (PySem.W.fnOf "extent_of_parts" "extent_of_parts" (defArgs (topS 21)) (defBody (topS 21)) (defScope (topS 21)) .none kV9 dc9 pm9 an9 cd9 ct9), sl9⟩) (c9 : PySem.W.codeIn K cd9 "extent_of_parts" = true) (k9 : PySem.W.keepIn K (.ref f9) = true)
    (a10 : PySem.W.nsIn K mainGlobals "net_by" = some (some (.ref f10))) (l10 : K.lookup f10 = some ⟨oc10, od10, .func (PySem.W.fnOf "net_by" "net_by" (defArgs (topS 22)) (defBody (topS 22)) (defScope (topS 22)) .none kV10 dc10 pm10 an10 cd10 ct10), sl10⟩) (c10 : PySem.W.codeIn K cd10 "net_by" = true) (k10 : PySem.W.keepIn K (.ref f10) = true)
    (a11 : PySem.W.nsIn K mainGlobals "lowest_by" = some (some (.ref f11))) (l11 : K.lookup f11 = some ⟨oc11, od11, .func (PySem.W.fnOf "lowest_by" "lowest_by" (defArgs (topS 23)) (defBody (topS 23)) (defScope (topS 23)) .none kV11 dc11 pm11 an11 cd11 ct11), sl11⟩) (c11 : PySem.W.codeIn K cd11 "lowest_by" = true) (k11 : PySem.W.keepIn K (.ref f11) = true)
    (a12 : PySem.W.nsIn K mainGlobals "net" = some (some (.ref f12))) (l12 : K.lookup f12 = some ⟨oc12, od12, .func (PySem.W.fnOf "net" "net" (defArgs (topS 24)) (defBody (topS 24)) (defScope (topS 24)) .none kV12 dc12 pm12 an12 cd12 ct12), sl12⟩) (c12 : PySem.W.codeIn K cd12 "net" = true) (k12 : PySem.W.keepIn K (.ref f12) = true)
    (a13 : PySem.W.nsIn K mainGlobals "lowest" = some (some (.ref f13))) (l13 : K.lookup f13 = some ⟨oc13, od13, .func (PySem.W.fnOf "lowest" "lowest" (defArgs (topS 25)) (defBody (topS 25)) (defScope (topS 25)) .none kV13 dc13 pm13 an13 cd13 ct13), sl13⟩) (c13 : PySem.W.codeIn K cd13 "lowest" = true) (k13 : PySem.W.keepIn K (.ref f13) = true)
    (a14 : PySem.W.nsIn K mainGlobals "mirror_by" = some (some (.ref f14))) (l14 : K.lookup f14 = some ⟨oc14, od14, .func (PySem.W.fnOf "mirror_by" "mirror_by" (defArgs (topS 26)) (defBody (topS 26)) (defScope (topS 26)) .none kV14 dc14 pm14 an14 cd14 ct14), sl14⟩) (c14 : PySem.W.codeIn K cd14 "mirror_by" = true) (k14 : PySem.W.keepIn K (.ref f14) = true)
    (a15 : PySem.W.nsIn K mainGlobals "mirror" = some (some (.ref f15))) (l15 : K.lookup f15 = some ⟨oc15, od15, .func (PySem.W.fnOf "mirror" "mirror" (defArgs (topS 27)) (defBody (topS 27)) (defScope (topS 27)) .none kV15 dc15 pm15 an15 cd15 ct15), sl15⟩) (c15 : PySem.W.codeIn K cd15 "mirror" = true) (k15 : PySem.W.keepIn K (.ref f15) = true)
    (a16 : PySem.W.nsIn K mainGlobals "_law_pot" = some (some (.ref f16))) (l16 : K.lookup f16 = some ⟨oc16, od16, .func (PySem.W.fnOf "_law_pot" "_law_pot" (defArgs (topS 29)) (defBody (topS 29)) (defScope (topS 29)) .none kV16 dc16 pm16 an16 cd16 ct16), sl16⟩) (c16 : PySem.W.codeIn K cd16 "_law_pot" = true) (k16 : PySem.W.keepIn K (.ref f16) = true)
    (a17 : PySem.W.nsIn K mainGlobals "_law_take" = some (some (.ref f17))) (l17 : K.lookup f17 = some ⟨oc17, od17, .func (PySem.W.fnOf "_law_take" "_law_take" (defArgs (topS 30)) (defBody (topS 30)) (defScope (topS 30)) .none kV17 dc17 pm17 an17 cd17 ct17), sl17⟩) (c17 : PySem.W.codeIn K cd17 "_law_take" = true) (k17 : PySem.W.keepIn K (.ref f17) = true)
    (a18 : PySem.W.nsIn K mainGlobals "_law_step" = some (some (.ref f18))) (l18 : K.lookup f18 = some ⟨oc18, od18, .func (PySem.W.fnOf "_law_step" "_law_step" (defArgs (topS 31)) (defBody (topS 31)) (defScope (topS 31)) .none kV18 dc18 pm18 an18 cd18 ct18), sl18⟩) (c18 : PySem.W.codeIn K cd18 "_law_step" = true) (k18 : PySem.W.keepIn K (.ref f18) = true)
    (a19 : PySem.W.nsIn K mainGlobals "_law_job" = some (some (.ref f19))) (l19 : K.lookup f19 = some ⟨oc19, od19, .func (PySem.W.fnOf "_law_job" "_law_job" (defArgs (topS 32)) (defBody (topS 32)) (defScope (topS 32)) .none kV19 dc19 pm19 an19 cd19 ct19), sl19⟩) (c19 : PySem.W.codeIn K cd19 "_law_job" = true) (k19 : PySem.W.keepIn K (.ref f19) = true)
    (a20 : PySem.W.nsIn K mainGlobals "_law_turned" = some (some (.ref f20))) (l20 : K.lookup f20 = some ⟨oc20, od20, .func (PySem.W.fnOf "_law_turned" "_law_turned" (defArgs (topS 33)) (defBody (topS 33)) (defScope (topS 33)) .none kV20 dc20 pm20 an20 cd20 ct20), sl20⟩) (c20 : PySem.W.codeIn K cd20 "_law_turned" = true) (k20 : PySem.W.keepIn K (.ref f20) = true)
    (a21 : PySem.W.nsIn K mainGlobals "law" = some (some (.ref f21))) (l21 : K.lookup f21 = some ⟨oc21, od21, .func (PySem.W.fnOf "law" "law" (defArgs (topS 34)) (defBody (topS 34)) (defScope (topS 34)) .none kV21 dc21 pm21 an21 cd21 ct21), sl21⟩) (c21 : PySem.W.codeIn K cd21 "law" = true) (k21 : PySem.W.keepIn K (.ref f21) = true)
    (ug0 : PySem.W.nsIn K mainGlobals "MAX_STEP" = some (some (.int (1000000000000000000000000000000) t0)))
    (ug1 : PySem.W.nsIn K mainGlobals "MAX_COUNT" = some (some (.int (1000000000000000000000000000000) t1)))
    (ug2 : PySem.W.nsIn K mainGlobals "MAX_PARTS" = some (some (.int (400) t2)))
    (ug3 : PySem.W.nsIn K mainGlobals "MAX_NODES" = some (some (.int (400) t3)))
    (ug4 : PySem.W.nsIn K mainGlobals "MAX_DEPTH" = some (some (.int (13) t4)))
    (ug5 : PySem.W.nsIn K mainGlobals "GROUPS" = some (some (.ref ta5)))
    (tl5 : K.lookup ta5 = some ⟨.type "tuple", tod5, .seq #[.str "seq" t6, .str "par" t7] tn5, tsl5⟩)
    (ug6 : PySem.W.nsIn K mainGlobals "MULTIPLES" = some (some (.ref ta8)))
    (tl8 : K.lookup ta8 = some ⟨.type "tuple", tod8, .seq #[.str "repeat" t9, .str "copies" t10] tn8, tsl8⟩)
    (z0 : PySem.W.nsIn K mainGlobals "len" = some none)
    (z1 : PySem.W.nsIn K mainGlobals "abs" = some none)
    (z2 : PySem.W.nsIn K mainGlobals "max" = some none)
    (z3 : PySem.W.nsIn K mainGlobals "min" = some none)
    (z4 : PySem.W.nsIn K mainGlobals "int" = some none)
    (z5 : PySem.W.nsIn K mainGlobals "tuple" = some none)
    (z6 : PySem.W.nsIn K mainGlobals "repr" = some none)
    (z7 : PySem.W.nsIn K mainGlobals "str" = some none)
    (z8 : PySem.W.nsIn K mainGlobals "bool" = some none)
    (z9 : PySem.W.nsIn K mainGlobals "isinstance" = some none)
    (z10 : PySem.W.nsIn K mainGlobals "range" = some none)
    : Facts tab K mg where
  rows := fa_cons (ok0) (fa_cons (ok1) (fa_cons (ok2) (fa_cons (ok3) (fa_cons (ok4) (fa_cons (ok5) (fa_cons (ok6) (fa_cons (ok7) (fa_cons (ok8) (fa_cons (ok9) (fa_cons (ok10) (fa_cons (ok11) (fa_cons (ok12) (fa_cons (ok13) (fa_cons (ok14) (fa_cons (ok15) (fa_cons (ok16) (fa_cons (ok17) (fa_cons (ok18) (fa_cons (ok19) (fa_cons (ok20) (fa_cons (ok21) (fa_nil))))))))))))))))))))))
  live := fa_cons (live_mk (r := r0) X G a0 l0 c0 k0 (fun _ _ _ _ _ _ us hl => match us, hl with | [_], _ => rfl)) (fa_cons (live_mk (r := r1) X G a1 l1 c1 k1 (fun _ _ _ _ _ _ us hl => match us, hl with | [_, _, _], _ => rfl)) (fa_cons (live_mk (r := r2) X G a2 l2 c2 k2 (fun _ _ _ _ _ _ us hl => match us, hl with | [_], _ => rfl)) (fa_cons (live_mk (r := r3) X G a3 l3 c3 k3 (fun _ _ _ _ _ _ us hl => match us, hl with | [_, _], _ => rfl)) (fa_cons (live_mk (r := r4) X G a4 l4 c4 k4 (fun _ _ _ _ _ _ us hl => match us, hl with | [_, _], _ => rfl)) (fa_cons (live_mk (r := r5) X G a5 l5 c5 k5 (fun _ _ _ _ _ _ us hl => match us, hl with | [_, _, _], _ => rfl)) (fa_cons (live_mk (r := r6) X G a6 l6 c6 k6 (fun _ _ _ _ _ _ us hl => match us, hl with | [_], _ => rfl)) (fa_cons (live_mk (r := r7) X G a7 l7 c7 k7 (fun _ _ _ _ _ _ us hl => match us, hl with | [_], _ => rfl)) (fa_cons (live_mk (r := r8) X G a8 l8 c8 k8 (fun _ _ _ _ _ _ us hl => match us, hl with | [_], _ => rfl)) (fa_cons (live_mk (r := r9) X G a9 l9 c9 k9 (fun _ _ _ _ _ _ us hl => match us, hl with | [_, _], _ => rfl)) (fa_cons (live_mk (r := r10) X G a10 l10 c10 k10 (fun _ _ _ _ _ _ us hl => match us, hl with | [_], _ => rfl)) (fa_cons (live_mk (r := r11) X G a11 l11 c11 k11 (fun _ _ _ _ _ _ us hl => match us, hl with | [_], _ => rfl)) (fa_cons (live_mk (r := r12) X G a12 l12 c12 k12 (fun _ _ _ _ _ _ us hl => match us, hl with | [_], _ => rfl)) (fa_cons (live_mk (r := r13) X G a13 l13 c13 k13 (fun _ _ _ _ _ _ us hl => match us, hl with | [_], _ => rfl)) (fa_cons (live_mk (r := r14) X G a14 l14 c14 k14 (fun _ _ _ _ _ _ us hl => match us, hl with | [_], _ => rfl)) (fa_cons (live_mk (r := r15) X G a15 l15 c15 k15 (fun _ _ _ _ _ _ us hl => match us, hl with | [_], _ => rfl)) (fa_cons (live_mk (r := r16) X G a16 l16 c16 k16 (fun _ _ _ _ _ _ us hl => match us, hl with | [_, _], _ => rfl)) (fa_cons (live_mk (r := r17) X G a17 l17 c17 k17 (fun _ _ _ _ _ _ us hl => match us, hl with | [_, _], _ => rfl)) (fa_cons (live_mk (r := r18) X G a18 l18 c18 k18 (fun _ _ _ _ _ _ us hl => match us, hl with | [_], _ => rfl)) (fa_cons (live_mk (r := r19) X G a19 l19 c19 k19 (fun _ _ _ _ _ _ us hl => match us, hl with | [_, _, _], _ => rfl)) (fa_cons (live_mk (r := r20) X G a20 l20 c20 k20 (fun _ _ _ _ _ _ us hl => match us, hl with | [_], _ => rfl)) (fa_cons (live_mk (r := r21) X G a21 l21 c21 k21 (fun _ _ _ _ _ _ us hl => match us, hl with | [_], _ => rfl)) (fa_nil))))))))))))))))))))))
  gl := gl_of_mem (fa_cons (⟨_, PySem.W.mg_of X G ug0, .int _ _⟩) (fa_cons (⟨_, PySem.W.mg_of X G ug1, .int _ _⟩) (fa_cons (⟨_, PySem.W.mg_of X G ug2, .int _ _⟩) (fa_cons (⟨_, PySem.W.mg_of X G ug3, .int _ _⟩) (fa_cons (⟨_, PySem.W.mg_of X G ug4, .int _ _⟩) (fa_cons (⟨_, PySem.W.mg_of X G ug5, .tup (us := [.str "seq" t6, .str "par" t7]) tl5 (by show 2 ≤ sizeLine; decide) (.cons (.str _ _) (.cons (.str _ _) (.nil)))⟩) (fa_cons (⟨_, PySem.W.mg_of X G ug6, .tup (us := [.str "repeat" t9, .str "copies" t10]) tl8 (by show 2 ≤ sizeLine; decide) (.cons (.str _ _) (.cons (.str _ _) (.nil)))⟩) (fa_nil))))))))
  blt := fa_cons (PySem.W.mg_none_of X G z0) (fa_cons (PySem.W.mg_none_of X G z1) (fa_cons (PySem.W.mg_none_of X G z2) (fa_cons (PySem.W.mg_none_of X G z3) (fa_cons (PySem.W.mg_none_of X G z4) (fa_cons (PySem.W.mg_none_of X G z5) (fa_cons (PySem.W.mg_none_of X G z6) (fa_cons (PySem.W.mg_none_of X G z7) (fa_cons (PySem.W.mg_none_of X G z8) (fa_cons (PySem.W.mg_none_of X G z9) (fa_cons (PySem.W.mg_none_of X G z10) (fa_nil)))))))))))
theorem binds_law (K : PySem.W.Frag) (f : Addr) (fd : FuncData) (F : Fun K r21.x r21.x r21.st f fd) (s : Shared) (u : Value) : BindsTo s fd ⟨[u], []⟩ [("_law_script", u)] := by
  obtain ⟨oc, od, kV, doc, pm, an, cdv, ct, osl, rfl, lk, hcd⟩ := F.ex
  exact .of_eq rfl
end Qk04
open PySem PySem.W PyProof.Rows
set_option maxRecDepth 100000 in
set_option maxHeartbeats 0 in
theorem PySem.Challenge.cw_roomprofile_k04_mirrors_holds : PySem.Challenge.rw_roomprofile_k04_mirrors.Holds := by
  w_on; o_law; k_head; (case hw => w_witness2)
  k_fill
  refine RP.walk_rp (l := PySem.Challenge.rw_roomprofile_k04_mirrors) (T := Qk04.tab) (r := Qk04.r21) (kL := 21) (N := 100) rfl (by decide) rfl ⟨rfl, by decide, by decide⟩ (fun w h Y => PySem.W.kIn_of Y) rfl rfl rfl ?F Qk04.binds_law Qk04.law_true
  case F =>
    intro w mg h KX G _
    refine' Qk04.facts_mk KX G ?a0 ?l0 ?c0 ?k0 ?a1 ?l1 ?c1 ?k1 ?a2 ?l2 ?c2 ?k2 ?a3 ?l3 ?c3 ?k3 ?a4 ?l4 ?c4 ?k4 ?a5 ?l5 ?c5 ?k5 ?a6 ?l6 ?c6 ?k6 ?a7 ?l7 ?c7 ?k7 ?a8 ?l8 ?c8 ?k8 ?a9 ?l9 ?c9 ?k9 ?a10 ?l10 ?c10 ?k10 ?a11 ?l11 ?c11 ?k11 ?a12 ?l12 ?c12 ?k12 ?a13 ?l13 ?c13 ?k13 ?a14 ?l14 ?c14 ?k14 ?a15 ?l15 ?c15 ?k15 ?a16 ?l16 ?c16 ?k16 ?a17 ?l17 ?c17 ?k17 ?a18 ?l18 ?c18 ?k18 ?a19 ?l19 ?c19 ?k19 ?a20 ?l20 ?c20 ?k20 ?a21 ?l21 ?c21 ?k21 ?ug0 ?ug1 ?ug2 ?ug3 ?ug4 ?ug5 ?tl5 ?ug6 ?tl8 ?z0 ?z1 ?z2 ?z3 ?z4 ?z5 ?z6 ?z7 ?z8 ?z9 ?z10
    (case a0 => k_is)
    (case l0 => k_is)
    (case c0 => k_is)
    (case k0 => k_is)
    (case a1 => k_is)
    (case l1 => k_is)
    (case c1 => k_is)
    (case k1 => k_is)
    (case a2 => k_is)
    (case l2 => k_is)
    (case c2 => k_is)
    (case k2 => k_is)
    (case a3 => k_is)
    (case l3 => k_is)
    (case c3 => k_is)
    (case k3 => k_is)
    (case a4 => k_is)
    (case l4 => k_is)
    (case c4 => k_is)
    (case k4 => k_is)
    (case a5 => k_is)
    (case l5 => k_is)
    (case c5 => k_is)
    (case k5 => k_is)
    (case a6 => k_is)
    (case l6 => k_is)
    (case c6 => k_is)
    (case k6 => k_is)
    (case a7 => k_is)
    (case l7 => k_is)
    (case c7 => k_is)
    (case k7 => k_is)
    (case a8 => k_is)
    (case l8 => k_is)
    (case c8 => k_is)
    (case k8 => k_is)
    (case a9 => k_is)
    (case l9 => k_is)
    (case c9 => k_is)
    (case k9 => k_is)
    (case a10 => k_is)
    (case l10 => k_is)
    (case c10 => k_is)
    (case k10 => k_is)
    (case a11 => k_is)
    (case l11 => k_is)
    (case c11 => k_is)
    (case k11 => k_is)
    (case a12 => k_is)
    (case l12 => k_is)
    (case c12 => k_is)
    (case k12 => k_is)
    (case a13 => k_is)
    (case l13 => k_is)
    (case c13 => k_is)
    (case k13 => k_is)
    (case a14 => k_is)
    (case l14 => k_is)
    (case c14 => k_is)
    (case k14 => k_is)
    (case a15 => k_is)
    (case l15 => k_is)
    (case c15 => k_is)
    (case k15 => k_is)
    (case a16 => k_is)
    (case l16 => k_is)
    (case c16 => k_is)
    (case k16 => k_is)
    (case a17 => k_is)
    (case l17 => k_is)
    (case c17 => k_is)
    (case k17 => k_is)
    (case a18 => k_is)
    (case l18 => k_is)
    (case c18 => k_is)
    (case k18 => k_is)
    (case a19 => k_is)
    (case l19 => k_is)
    (case c19 => k_is)
    (case k19 => k_is)
    (case a20 => k_is)
    (case l20 => k_is)
    (case c20 => k_is)
    (case k20 => k_is)
    (case a21 => k_is)
    (case l21 => k_is)
    (case c21 => k_is)
    (case k21 => k_is)
    (case ug0 => k_is)
    (case ug1 => k_is)
    (case ug2 => k_is)
    (case ug3 => k_is)
    (case ug4 => k_is)
    (case ug5 => k_is)
    (case tl5 => k_is)
    (case ug6 => k_is)
    (case tl8 => k_is)
    (case z0 => k_is)
    (case z1 => k_is)
    (case z2 => k_is)
    (case z3 => k_is)
    (case z4 => k_is)
    (case z5 => k_is)
    (case z6 => k_is)
    (case z7 => k_is)
    (case z8 => k_is)
    (case z9 => k_is)
    (case z10 => k_is)
